import PyProof.Rows.All
import Wide.All
import OpenK.AllK
import Wide.FinOn
import HandS.ForMost
import HandS.IsInst
import HandS.Flow
import HandS.Wide
import HandS.Defaults
import HandS.Property
import HandS.Style
import HandS.Zip
import HandS.SortInts
import HandS.SlotsOwn
import KE.GoesEnum
import PyProof.InstNe
import HandS.Head0
import HandS.Head1
import HandS.Head2
import HandS.HeadEnd
import HandS.HeadHook1
import HandS.HeadHook2
import HandS.Deep
import PySem.Challenge.RW_slipsights_k28_spans_stepped_and_sighted
set_option Elab.async false
set_option linter.all false
set_option maxRecDepth 100000
set_option maxHeartbeats 2000000
/-! Dt: data that a value stands for, states by data, and what an expression, a test, a statement comes to by data. -/
namespace Dt
open PySem PySem.Spec PyProof.Rows L2

/-- what a value stands for: a tree of data; adr a: the object at a, whatever it is -/
inductive D where
  | non | bl (b : Bool) | int (i : Int) | str (x : Str) | ty (n : String)
  | tup (xs : List D) | lst (xs : List D) | obj (C : Addr) (fs : List (Str × D)) | adr (a : Addr)

abbrev Ex (H H' : Hp) : Prop := Same H H'

inductive IsD (K : PySem.W.Frag) (P : Hp) : V → D → Prop
  | non : IsD K P .non .non
  | bl {b} : IsD K P (.bl b) (.bl b)
  | int {i} : IsD K P (.int i) (.int i)
  | str {x} : IsD K P (.str x) (.str x)
  | ty {n} : IsD K P (.ty n) (.ty n)
  | tup {a xs ds} (h : SqT K P a xs) (hl : xs.length = ds.length) (hi : ∀ (i : Nat) x d, xs[i]? = some x → ds[i]? = some d → IsD K P x d) : IsD K P (.ref a) (.tup ds)
  | lst {a xs ds} (h : SqL K P a xs) (hl : xs.length = ds.length) (hi : ∀ (i : Nat) x d, xs[i]? = some x → ds[i]? = some d → IsD K P x d) : IsD K P (.ref a) (.lst ds)
  | obj {a C dx fs ds} (h : P a = some (.ins C dx fs)) (hl : fs.map (·.1) = ds.map (·.1)) (hi : ∀ (i : Nat) x d, fs[i]? = some x → ds[i]? = some d → IsD K P x.2 d.2) : IsD K P (.ref a) (.obj C ds)
  | adr {a} : IsD K P (.ref a) (.adr a)

def IsDs (K : PySem.W.Frag) (P : Hp) (xs : List V) (ds : List D) : Prop := xs.length = ds.length ∧ ∀ (i : Nat) x d, xs[i]? = some x → ds[i]? = some d → IsD K P x d
def IsFs (K : PySem.W.Frag) (P : Hp) (fs : List (Str × V)) (ds : List (Str × D)) : Prop := fs.map (·.1) = ds.map (·.1) ∧ ∀ (i : Nat) x d, fs[i]? = some x → ds[i]? = some d → IsD K P x.2 d.2

section
variable {K : PySem.W.Frag} {P P' : Hp}
theorem Same.tupS {a : Addr} {xs : List V} (e : Ex P P') (h : SqT K P a xs) : SqT K P' a xs := by
  rcases h with (h | ⟨o, h⟩) | h
  · exact .inl (.inl (e _ _ h))
  · exact .inl (.inr ⟨o, e _ _ h⟩)
  · exact .inr h
theorem IsD.mono (e : Ex P P') {v : V} {d : D} (h : IsD K P v d) : IsD K P' v d := by
  induction h with
  | non => exact .non
  | bl => exact .bl
  | int => exact .int
  | str => exact .str
  | ty => exact .ty
  | tup h hl _ ih => exact .tup (Same.tupS e h) hl ih
  | lst h hl _ ih => exact .lst (e.seq h) hl ih
  | obj h hl _ ih => exact .obj (e _ _ h) hl ih
  | adr => exact .adr
theorem IsDs.mono (e : Ex P P') {xs : List V} {ds : List D} (h : IsDs K P xs ds) : IsDs K P' xs ds := ⟨h.1, fun i x d a b => (h.2 i x d a b).mono e⟩
theorem IsFs.mono (e : Ex P P') {xs : List (Str × V)} {ds : List (Str × D)} (h : IsFs K P xs ds) : IsFs K P' xs ds := ⟨h.1, fun i x d a b => (h.2 i x d a b).mono e⟩
theorem IsDs.nil : IsDs K P [] [] := ⟨rfl, fun i x d h => by simp at h⟩
theorem IsDs.cons {x : V} {d : D} {xs : List V} {ds : List D} (h : IsD K P x d) (t : IsDs K P xs ds) : IsDs K P (x :: xs) (d :: ds) :=
  ⟨by rw [List.length_cons, List.length_cons, t.1], fun i y e a b => by
    cases i with
    | zero =>
      simp only [List.getElem?_cons_zero, Option.some.injEq] at a b
      subst a b
      exact h
    | succ i =>
      simp only [List.getElem?_cons_succ] at a b
      exact t.2 i y e a b⟩
theorem IsDs.append {xs ys : List V} {ds es : List D} (h : IsDs K P xs ds) (t : IsDs K P ys es) : IsDs K P (xs ++ ys) (ds ++ es) := by
  refine ⟨by rw [List.length_append, List.length_append, h.1, t.1], fun i y e a b => ?_⟩
  have hl := h.1
  by_cases hi : i < xs.length
  · rw [List.getElem?_append_left hi] at a
    rw [List.getElem?_append_left (by omega)] at b
    exact h.2 i y e a b
  · rw [List.getElem?_append_right (by omega)] at a
    rw [List.getElem?_append_right (by omega)] at b
    rw [hl] at a
    exact t.2 _ y e a b
theorem IsDs.uncons {xs : List V} {d : D} {ds : List D} (h : IsDs K P xs (d :: ds)) : ∃ x r, xs = x :: r ∧ IsD K P x d ∧ IsDs K P r ds := by
  obtain ⟨hl, hi⟩ := h
  cases xs with
  | nil => simp at hl
  | cons x r => exact ⟨x, r, rfl, hi 0 x d rfl rfl, by simpa using hl, fun i y e a b => hi (i + 1) y e (by simpa using a) (by simpa using b)⟩
theorem IsDs.unnil {xs : List V} (h : IsDs K P xs []) : xs = [] := List.length_eq_zero_iff.mp h.1
theorem IsDs.get {xs : List V} {ds : List D} {i : Nat} {d : D} (h : IsDs K P xs ds) (e : ds[i]? = some d) : ∃ x, xs[i]? = some x ∧ IsD K P x d := by
  obtain ⟨hl, hi⟩ := h
  have hb : i < xs.length := by rw [hl]; exact (List.getElem?_eq_some_iff.mp e).1
  exact ⟨xs[i], List.getElem?_eq_getElem hb, hi i _ d (List.getElem?_eq_getElem hb) e⟩
theorem IsDs.getV {xs : List V} {ds : List D} {i : Nat} {x : V} (h : IsDs K P xs ds) (e : xs[i]? = some x) : ∃ d, ds[i]? = some d ∧ IsD K P x d := by
  obtain ⟨hl, hi⟩ := h
  have hb : i < ds.length := by rw [← hl]; exact (List.getElem?_eq_some_iff.mp e).1
  exact ⟨ds[i], List.getElem?_eq_getElem hb, hi i x _ e (List.getElem?_eq_getElem hb)⟩
theorem IsDs.ints (ns : List Int) : IsDs K P (ns.map V.int) (ns.map D.int) := by
  refine ⟨by rw [List.length_map, List.length_map], fun i x d a b => ?_⟩
  rw [List.getElem?_map] at a b
  cases e : ns[i]? with
  | none => rw [e] at a; cases a
  | some n =>
    rw [e] at a b
    cases a
    cases b
    exact .int
theorem IsFs.nil : IsFs K P [] [] := ⟨rfl, fun i x d h => by simp at h⟩
theorem IsFs.cons {f : Str} {x : V} {d : D} {xs : List (Str × V)} {ds : List (Str × D)} (h : IsD K P x d) (t : IsFs K P xs ds) : IsFs K P ((f, x) :: xs) ((f, d) :: ds) :=
  ⟨by rw [List.map_cons, List.map_cons, t.1], fun i y e a b => by
    cases i with
    | zero =>
      simp only [List.getElem?_cons_zero, Option.some.injEq] at a b
      subst a b
      exact h
    | succ i =>
      simp only [List.getElem?_cons_succ] at a b
      exact t.2 i y e a b⟩
theorem IsFs.uncons {f : Str} {d : D} {xs : List (Str × V)} {ds : List (Str × D)} (h : IsFs K P xs ((f, d) :: ds)) : ∃ x r, xs = (f, x) :: r ∧ IsD K P x d ∧ IsFs K P r ds := by
  obtain ⟨hl, hi⟩ := h
  cases xs with
  | nil => simp at hl
  | cons x r =>
    obtain ⟨g, x⟩ := x
    simp only [List.map_cons, List.cons.injEq] at hl
    obtain ⟨e, hl⟩ := hl
    subst e
    exact ⟨x, r, rfl, hi 0 (g, x) (g, d) rfl rfl, hl, fun i y e a b => hi (i + 1) y e (by simpa using a) (by simpa using b)⟩
theorem IsFs.unnil {xs : List (Str × V)} (h : IsFs K P xs []) : xs = [] := by
  have e := h.1
  cases xs with
  | nil => rfl
  | cons x r => simp at e
theorem IsFs.lookup {f : Str} {d : D} : ∀ {xs : List (Str × V)} {ds : List (Str × D)}, IsFs K P xs ds → ds.lookup f = some d → ∃ v, xs.lookup f = some v ∧ IsD K P v d
  | xs, [], h, e => by simp at e
  | xs, (g, d') :: ds, h, e => by
    obtain ⟨x, r, rfl, hx, hr⟩ := h.uncons
    by_cases hg : f = g
    · subst hg
      simp only [List.lookup_cons_self, Option.some.injEq] at e
      subst e
      exact ⟨x, by simp, hx⟩
    · have hg' : (f == g) = false := by simpa using hg
      rw [List.lookup_cons, hg'] at e
      obtain ⟨v, h1, h2⟩ := IsFs.lookup hr e
      exact ⟨v, by rw [List.lookup_cons, hg']; exact h1, h2⟩
theorem IsFs.lookup_none {f : Str} : ∀ {xs : List (Str × V)} {ds : List (Str × D)}, IsFs K P xs ds → ds.lookup f = none → xs.lookup f = none
  | xs, [], h, e => by rw [h.unnil]; rfl
  | xs, (g, d') :: ds, h, e => by
    obtain ⟨x, r, rfl, hx, hr⟩ := h.uncons
    by_cases hg : f = g
    · subst hg
      simp at e
    · have hg' : (f == g) = false := by simpa using hg
      rw [List.lookup_cons, hg'] at e ⊢
      exact IsFs.lookup_none hr e
/-- an attribute stored, by data -/
def putD (f : Str) (d : D) : List (Str × D) → List (Str × D)
  | [] => [(f, d)]
  | (g, e) :: r => if g = f then (g, d) :: r else (g, e) :: putD f d r
theorem putF_cons (f g : Str) (v x : V) (r : List (Str × V)) : putF f v ((g, x) :: r) = if g = f then (g, v) :: r else (g, x) :: putF f v r := by
  first
    | rfl
    | (unfold putF; split <;> rfl)
    | (by_cases h : g = f
       · subst h; simp [putF]
       · simp [putF, h])
theorem IsFs.put {f : Str} {d : D} {v : V} (hv : IsD K P v d) : ∀ {xs : List (Str × V)} {ds : List (Str × D)}, IsFs K P xs ds → IsFs K P (putF f v xs) (putD f d ds)
  | xs, [], h => by
    rw [h.unnil]
    exact .cons hv .nil
  | xs, (g, d') :: ds, h => by
    obtain ⟨x, r, rfl, hx, hr⟩ := h.uncons
    rw [putF_cons]
    unfold putD
    by_cases hg : g = f
    · rw [if_pos hg, if_pos hg]
      exact .cons hv hr
    · rw [if_neg hg, if_neg hg]
      exact .cons hx (IsFs.put hv hr)
theorem IsFs.length {xs : List (Str × V)} {ds : List (Str × D)} (h : IsFs K P xs ds) : xs.length = ds.length := by
  have e := congrArg List.length h.1
  rw [List.length_map, List.length_map] at e
  exact e
end

/-! ### the state by data -/
abbrev Sl := List (Option D)
/-- an object of one's own, that may change -/
inductive MO where
  | lst (ds : List D)
  | ins (C : Addr) (fs : List (Str × D))
abbrev Mem := List (Addr × MO)
def MHas (K : PySem.W.Frag) (P H : Hp) (a : Addr) : MO → Prop
  | .lst ds => ∃ xs, H a = some (.lst xs) ∧ IsDs K P xs ds
  | .ins C fs => ∃ dx xs, H a = some (.ins C dx xs) ∧ IsFs K P xs fs
structure MOk (K : PySem.W.Frag) (M : Mem) (P H : Hp) : Prop where
  ex : Ex P H
  nd : (M.map (·.1)).Nodup
  at_ : ∀ a o, (a, o) ∈ M → P a = none ∧ MHas K P H a o
structure SOk (K : PySem.W.Frag) (Γ : Sl) (P : Hp) (σ : L2.St) : Prop where
  len : Γ.length = σ.length
  at_ : ∀ (i : Nat) (d : D), Γ[i]? = some (some d) → ∃ v, σ[i]? = some (some v) ∧ IsD K P v d
section
variable {K : PySem.W.Frag} {M M' : Mem} {P P' H H' : Hp} {Γ : Sl} {σ : L2.St}
theorem MHas.mono {a : Addr} {o : MO} (e : Ex P P') (he : H a = H' a) (h : MHas K P H a o) : MHas K P' H' a o := by
  cases o with
  | lst ds =>
    obtain ⟨xs, h1, h2⟩ := h
    exact ⟨xs, by rw [← he]; exact h1, h2.mono e⟩
  | ins C fs =>
    obtain ⟨dx, xs, h1, h2⟩ := h
    exact ⟨dx, xs, by rw [← he]; exact h1, h2.mono e⟩
theorem MHas.some {a : Addr} {o : MO} (h : MHas K P H a o) : ∃ u, H a = some u := by
  cases o with
  | lst ds =>
    obtain ⟨xs, h1, h2⟩ := h
    exact ⟨_, h1⟩
  | ins C fs =>
    obtain ⟨dx, xs, h1, h2⟩ := h
    exact ⟨_, h1⟩
theorem SOk.mono (e : Ex P P') (h : SOk K Γ P σ) : SOk K Γ P' σ := ⟨h.len, fun i d q => let ⟨v, a, b⟩ := h.at_ i d q; ⟨v, a, b.mono e⟩⟩
theorem SOk.set {i : Nat} {v : V} {d : D} (h : SOk K Γ P σ) (hv : IsD K P v d) : SOk K (Γ.set i (some d)) P (σ.set i (some v)) := by
  refine ⟨by rw [List.length_set, List.length_set]; exact h.len, fun j e q => ?_⟩
  by_cases hj : i = j
  · subst hj
    have hb : i < Γ.length := by
      have := (List.getElem?_eq_some_iff.mp q).1
      rwa [List.length_set] at this
    rw [List.getElem?_set_self hb] at q
    cases q
    exact ⟨v, by rw [List.getElem?_set_self (by rw [← h.len]; exact hb)], hv⟩
  · rw [List.getElem?_set_ne hj] at q
    obtain ⟨w, a, b⟩ := h.at_ j e q
    exact ⟨w, by rw [List.getElem?_set_ne hj]; exact a, b⟩
/-- slots forgotten -/
theorem SOk.weak {Γ' : Sl} (h : SOk K Γ P σ) (hl : Γ'.length = Γ.length) (hi : ∀ (i : Nat) (d : D), Γ'[i]? = some (some d) → Γ[i]? = some (some d)) : SOk K Γ' P σ := ⟨hl.trans h.len, fun i d q => h.at_ i d (hi i d q)⟩
/-- a new object, not of one's own to change -/
theorem MOk.push {a : Addr} {o : HO} (h : MOk K M P H) (ha : H a = none) : MOk K M (upd P a o) (upd H a o) ∧ Ex P (upd P a o) := by
  have hp : P a = none := h.ex.free ha
  have e1 : Ex P (upd P a o) := fun b u q => by
    rw [upd_ne (ne_of_none q hp)]
    exact q
  refine ⟨⟨fun b u q => ?_, h.nd, fun b u q => ?_⟩, e1⟩
  · by_cases hb : b = a
    · subst hb
      rw [upd_same] at q ⊢
      exact q
    · rw [upd_ne hb] at q ⊢
      exact h.ex _ _ q
  · obtain ⟨h1, h2⟩ := h.at_ b u q
    have hb : b ≠ a := fun z => by
      obtain ⟨w, hw⟩ := h2.some
      rw [z, ha] at hw
      cases hw
    exact ⟨by rw [upd_ne hb]; exact h1, h2.mono e1 (by rw [upd_ne hb])⟩
/-- a new object of one's own -/
theorem MOk.own {a : Addr} {o : HO} {m : MO} (h : MOk K M P H) (ha : H a = none) (hm : MHas K P (upd H a o) a m) : MOk K ((a, m) :: M) P (upd H a o) := by
  have hp : P a = none := h.ex.free ha
  refine ⟨fun b u q => ?_, ?_, fun b u q => ?_⟩
  · rw [upd_ne (ne_of_none q hp)]
    exact h.ex _ _ q
  · rw [List.map_cons, List.nodup_cons]
    refine ⟨fun hm => ?_, h.nd⟩
    obtain ⟨e, he, e2⟩ := List.mem_map.mp hm
    obtain ⟨w, hw⟩ := (h.at_ e.1 e.2 he).2.some
    rw [e2, ha] at hw
    cases hw
  · rcases List.mem_cons.mp q with e | q
    · cases e
      exact ⟨hp, hm⟩
    · obtain ⟨h1, h2⟩ := h.at_ b u q
      have hb : b ≠ a := fun z => by
        obtain ⟨w, hw⟩ := h2.some
        rw [z, ha] at hw
        cases hw
      exact ⟨h1, h2.mono (Same.refl P) (by rw [upd_ne hb])⟩
theorem MOk.get {k : Nat} {a : Addr} {m : MO} (h : MOk K M P H) (e : M[k]? = some (a, m)) : P a = none ∧ MHas K P H a m := h.at_ a m (List.mem_of_getElem? e)
/-- an object of one's own changes -/
theorem MOk.put {k : Nat} {a : Addr} {m m' : MO} {o : HO} (h : MOk K M P H) (e : M[k]? = some (a, m)) (hm : MHas K P (upd H a o) a m') : MOk K (M.set k (a, m')) P (upd H a o) := by
  obtain ⟨hp, _⟩ := h.get e
  have hk : k < M.length := (List.getElem?_eq_some_iff.mp e).1
  refine ⟨fun b u q => ?_, ?_, fun b u q => ?_⟩
  · rw [upd_ne (ne_of_none q hp)]
    exact h.ex _ _ q
  · have e2 : (M.set k (a, m')).map (·.1) = M.map (·.1) := by
      rw [List.map_set]
      refine List.ext_getElem? fun i => ?_
      by_cases hi : k = i
      · subst hi
        rw [List.getElem?_set_self (by rw [List.length_map]; exact hk), List.getElem?_map, e]
        rfl
      · rw [List.getElem?_set_ne hi]
    rw [e2]
    exact h.nd
  · obtain ⟨j, hj⟩ := List.getElem?_of_mem q
    by_cases hi : k = j
    · subst hi
      rw [List.getElem?_set_self hk] at hj
      cases hj
      exact ⟨hp, hm⟩
    · rw [List.getElem?_set_ne hi] at hj
      obtain ⟨h1, h2⟩ := h.get hj
      have hb : b ≠ a := fun z => by
        subst z
        have a1 : (M.map (·.1))[k]? = some b := by rw [List.getElem?_map, e]; rfl
        have a2 : (M.map (·.1))[j]? = some b := by rw [List.getElem?_map, hj]; rfl
        obtain ⟨b1, c1⟩ := List.getElem?_eq_some_iff.mp a1
        obtain ⟨b2, c2⟩ := List.getElem?_eq_some_iff.mp a2
        exact hi ((List.getElem_inj h.nd).mp (c1.trans c2.symm))
      exact ⟨h1, h2.mono (Same.refl P) (by rw [upd_ne hb])⟩
/-- some of one's own objects are given up -/
theorem MOk.sub (h : MOk K M P H) (hs : M'.Sublist M) : MOk K M' P H := ⟨h.ex, h.nd.sublist (hs.map _), fun a o q => h.at_ a o (hs.subset q)⟩
theorem MOk.tail {x : Addr × MO} (h : MOk K (x :: M) P H) : MOk K M P H := h.sub (List.sublist_cons_self _ _)
/-- an object of one's own changes no more -/
theorem MOk.freeze {a : Addr} {m : MO} {o : HO} (h : MOk K ((a, m) :: M) P H) (ho : H a = some o) : MOk K M (upd P a o) H ∧ Ex P (upd P a o) := by
  obtain ⟨hp, _⟩ := h.at_ a m List.mem_cons_self
  have e1 : Ex P (upd P a o) := fun b u q => by
    rw [upd_ne (ne_of_none q hp)]
    exact q
  refine ⟨⟨fun b u q => ?_, h.tail.nd, fun b u q => ?_⟩, e1⟩
  · by_cases hb : b = a
    · subst hb
      rw [upd_same] at q
      rw [ho]
      exact q
    · rw [upd_ne hb] at q
      exact h.ex _ _ q
  · obtain ⟨h1, h2⟩ := h.tail.at_ b u q
    have hb : b ≠ a := fun z => by
      subst z
      have hn := h.nd
      rw [List.map_cons, List.nodup_cons] at hn
      exact hn.1 (List.mem_map.mpr ⟨(b, u), q, rfl⟩)
    exact ⟨by rw [upd_ne hb]; exact h1, h2.mono e1 rfl⟩
end
end Dt

set_option Elab.async false
set_option linter.all false
set_option maxRecDepth 100000
set_option maxHeartbeats 2000000
/-! Dt, part 2: what an expression, a test, a block comes to, by data. -/
namespace Dt
open PySem PySem.Spec PyProof.Rows L2
/-! ### readings by meaning -/
def wpT (X : Cx) (e : Expr) : TE := fun σ H Q => ∀ pins s, Inv X pins σ H s → wpAny (model X.prog X.w) X.A (eval e X.env) (EP X pins σ Q) X.xe s
def wpA (X : Cx) (es : List Expr) : TA := fun σ H Q => ∀ pos pins s, Inv X pins σ H s → wpAny (model X.prog X.w) X.A (spliced (backTo pos (starEach es X.env))) (AP X pins σ Q) X.xe s
def wpB (X : Cx) (e : Expr) : TT := fun σ H Q => ∀ pins s, Inv X pins σ H s → wpAny (model X.prog X.w) X.A (isTrue e X.env (eval e X.env)) (TP X pins σ Q) X.xe s
def wpW (X : Cx) (e : Expr) : TT := fun σ H Q => ∀ whole pins s, Inv X pins σ H s → wpAny (model X.prog X.w) X.A (isTrue e X.env whole) (TP X pins σ Q) X.xe s
def wpS (X : Cx) (st : Stmt) : TS := fun D σ H => ∀ pins s, Inv X pins σ H s → wpAny (model X.prog X.w) X.A (exec st X.env) (SP X pins D) X.xe s
def wpSs (X : Cx) (sts : List Stmt) : TS := fun D σ H => ∀ pins s, Inv X pins σ H s → wpAny (model X.prog X.w) X.A (execs sts X.env) (SP X pins D) X.xe s
def opT (X : Cx) (f : Value → Value → Sem Value) : R2 := fun x y H Q => ∀ pins σ s v u, Inv X pins σ H s → RelV x v → RelV y u → wpAny (model X.prog X.w) X.A (f v u) (EP X pins σ Q) X.xe s
def unT (X : Cx) (f : Value → Sem Value) : V → Hp → VK → Prop := fun x H Q => ∀ pins σ s v, Inv X pins σ H s → RelV x v → wpAny (model X.prog X.w) X.A (f v) (EP X pins σ Q) X.xe s
def caT (X : Cx) (f : Value) : List V → Hp → VK → Prop := fun xs H Q => ∀ pins σ s us, Inv X pins σ H s → Vals xs us → wpAny (model X.prog X.w) X.A (call f us) (EP X pins σ Q) X.xe s
def trT (X : Cx) : V → Hp → (Bool → Hp → Prop) → Prop := fun x H Q => ∀ pins σ s v, Inv X pins σ H s → RelV x v → wpAny (model X.prog X.w) X.A (truthy v) (TP X pins σ Q) X.xe s
section
variable {X : Cx} {e : Expr} {es : List Expr} {st : Stmt} {sts : List Stmt} {σ : L2.St} {H : Hp}
theorem pe_wp : PE X e (wpT X e) := ⟨fun pins s _ _ _ I h => h pins s I⟩
theorem pa_wp : PA X es (wpA X es) := ⟨fun pos pins s _ _ _ I h => h pos pins s I⟩
theorem pt_wp : PT X e (wpB X e) := ⟨fun pins s _ _ _ I h => h pins s I⟩
theorem pw_wp : PW X e (wpW X e) := ⟨fun wh pins s _ _ _ I h => h wh pins s I⟩
theorem ps_wp : PS X st (wpS X st) := ⟨fun pins s _ _ _ I h => h pins s I⟩
theorem pss_wp : PSs X sts (wpSs X sts) := ⟨fun pins s _ _ _ I h => h pins s I⟩
theorem op_wp {f : Value → Value → Sem Value} : OpR X f (opT X f) := fun pins s σ H x y v u Q I rx ry h => h pins σ s v u I rx ry
theorem un_wp {f : Value → Sem Value} : UnR X f (unT X f) := fun pins s σ H x v Q I rx h => h pins σ s v I rx
theorem ca_wp {f : Value} : CallR X f (caT X f) := fun pins s σ H xs us Q I rx h => h pins σ s us I rx
theorem tr_wp : TruR X (trT X) := fun pins s σ H x v Q I rx h => h pins σ s v I rx
theorem wpT_of {t : TE} (h : PE X e t) {Q : VK} (q : t σ H Q) : wpT X e σ H Q := fun pins s I => h.run pins s σ H Q I q
theorem wpA_of {t : TA} (h : PA X es t) {Q : List V → Hp → Prop} (q : t σ H Q) : wpA X es σ H Q := fun pos pins s I => h.run pos pins s σ H Q I q
theorem wpB_of {t : TT} (h : PT X e t) {Q : Bool → Hp → Prop} (q : t σ H Q) : wpB X e σ H Q := fun pins s I => h.run pins s σ H Q I q
theorem wpW_of {t : TT} (h : PW X e t) {Q : Bool → Hp → Prop} (q : t σ H Q) : wpW X e σ H Q := fun wh pins s I => h.run wh pins s σ H Q I q
theorem wpS_of {t : TS} (h : PS X st t) {D : Ends} (q : t D σ H) : wpS X st D σ H := fun pins s I => h.run pins s σ H D I q
theorem wpSs_of {t : TS} (h : PSs X sts t) {D : Ends} (q : t D σ H) : wpSs X sts D σ H := fun pins s I => h.run pins s σ H D I q
theorem opT_of {f : Value → Value → Sem Value} {r : R2} (h : OpR X f r) {x y : V} {Q : VK} (q : r x y H Q) : opT X f x y H Q := fun pins σ s v u I rx ry => h pins s σ H x y v u Q I rx ry q
theorem unT_of {f : Value → Sem Value} {r : V → Hp → VK → Prop} (h : UnR X f r) {x : V} {Q : VK} (q : r x H Q) : unT X f x H Q := fun pins σ s v I rx => h pins s σ H x v Q I rx q
theorem caT_of {f : Value} {r : List V → Hp → VK → Prop} (h : CallR X f r) {xs : List V} {Q : VK} (q : r xs H Q) : caT X f xs H Q := fun pins σ s us I rx => h pins s σ H xs us Q I rx q
theorem trT_of {r : V → Hp → (Bool → Hp → Prop) → Prop} (h : TruR X r) {x : V} {Q : Bool → Hp → Prop} (q : r x H Q) : trT X x H Q := fun pins σ s v I rx => h pins s σ H x v Q I rx q
theorem wpT.mono {Q Q' : VK} (h : wpT X e σ H Q) (q : ∀ v H', Q v H' → Q' v H') : wpT X e σ H Q' := fun pins s I => thn (h pins s I) fun _ _ ⟨v, H', a, b, c⟩ => ⟨v, H', a, b, q _ _ c⟩
theorem wpA.mono {Q Q' : List V → Hp → Prop} (h : wpA X es σ H Q) (q : ∀ v H', Q v H' → Q' v H') : wpA X es σ H Q' := fun pos pins s I => thn (h pos pins s I) fun _ _ ⟨v, H', a, b, c⟩ => ⟨v, H', a, b, q _ _ c⟩
theorem wpB.mono {Q Q' : Bool → Hp → Prop} (h : wpB X e σ H Q) (q : ∀ v H', Q v H' → Q' v H') : wpB X e σ H Q' := fun pins s I => thn (h pins s I) fun _ _ ⟨H', a, c⟩ => ⟨H', a, q _ _ c⟩
theorem wpW.mono {Q Q' : Bool → Hp → Prop} (h : wpW X e σ H Q) (q : ∀ v H', Q v H' → Q' v H') : wpW X e σ H Q' := fun wh pins s I => thn (h wh pins s I) fun _ _ ⟨H', a, c⟩ => ⟨H', a, q _ _ c⟩
theorem opT.mono {f : Value → Value → Sem Value} {x y : V} {Q Q' : VK} (h : opT X f x y H Q) (q : ∀ v H', Q v H' → Q' v H') : opT X f x y H Q' := fun pins σ s v u I a b => thn (h pins σ s v u I a b) fun _ _ ⟨v, H', a, b, c⟩ => ⟨v, H', a, b, q _ _ c⟩
theorem unT.mono {f : Value → Sem Value} {x : V} {Q Q' : VK} (h : unT X f x H Q) (q : ∀ v H', Q v H' → Q' v H') : unT X f x H Q' := fun pins σ s v I a => thn (h pins σ s v I a) fun _ _ ⟨v, H', a, b, c⟩ => ⟨v, H', a, b, q _ _ c⟩
theorem caT.mono {f : Value} {xs : List V} {Q Q' : VK} (h : caT X f xs H Q) (q : ∀ v H', Q v H' → Q' v H') : caT X f xs H Q' := fun pins σ s us I a => thn (h pins σ s us I a) fun _ _ ⟨v, H', a, b, c⟩ => ⟨v, H', a, b, q _ _ c⟩
theorem trT.mono {x : V} {Q Q' : Bool → Hp → Prop} (h : trT X x H Q) (q : ∀ v H', Q v H' → Q' v H') : trT X x H Q' := fun pins σ s v I a => thn (h pins σ s v I a) fun _ _ ⟨H', a, c⟩ => ⟨H', a, q _ _ c⟩
/-- what is wanted behind a statement, weakened -/
structure EndsLe (D D' : Ends) : Prop where
  nx : ∀ σ H, D.nx σ H → D'.nx σ H
  rt : ∀ v H, D.rt v H → D'.rt v H
  bk : ∀ σ H, D.bk σ H → D'.bk σ H
  ct : ∀ σ H, D.ct σ H → D'.ct σ H
theorem SP.le {X : Cx} {pins : List (Addr × Obj)} {D D' : Ends} (l : EndsLe D D') {f : Flow} {s : Shared} (h : SP X pins D f s) : SP X pins D' f s := by
  cases f with
  | next => obtain ⟨σ, H, I, q⟩ := h; exact ⟨σ, H, I, l.nx _ _ q⟩
  | brk => obtain ⟨σ, H, I, q⟩ := h; exact ⟨σ, H, I, l.bk _ _ q⟩
  | cont => obtain ⟨σ, H, I, q⟩ := h; exact ⟨σ, H, I, l.ct _ _ q⟩
  | ret u => obtain ⟨v, σ, H, I, r, q⟩ := h; exact ⟨v, σ, H, I, r, l.rt _ _ q⟩
theorem wpS.mono {D D' : Ends} (h : wpS X st D σ H) (l : EndsLe D D') : wpS X st D' σ H := fun pins s I => thn (h pins s I) fun _ _ q => SP.le l q
theorem wpSs.mono {D D' : Ends} (h : wpSs X sts D σ H) (l : EndsLe D D') : wpSs X sts D' σ H := fun pins s I => thn (h pins s I) fun _ _ q => SP.le l q
end

/-! ### ends by data -/
abbrev VP := D → Mem → Prop
def Fin (K : PySem.W.Frag) (P : Hp) (Φ : VP) : VK := fun v H2 => ∃ d M' P2, Φ d M' ∧ Ex P P2 ∧ MOk K M' P2 H2 ∧ IsD K P2 v d
def FinA (K : PySem.W.Frag) (P : Hp) (Φ : List D → Mem → Prop) : List V → Hp → Prop := fun vs H2 => ∃ ds M' P2, Φ ds M' ∧ Ex P P2 ∧ MOk K M' P2 H2 ∧ IsDs K P2 vs ds
def FinB (K : PySem.W.Frag) (P : Hp) (Φ : Bool → Mem → Prop) : Bool → Hp → Prop := fun b H2 => ∃ M' P2, Φ b M' ∧ Ex P P2 ∧ MOk K M' P2 H2
def FinS (K : PySem.W.Frag) (P : Hp) (Φ : Sl → Mem → Prop) : L2.St → Hp → Prop := fun σ H2 => ∃ Γ' M' P2, Φ Γ' M' ∧ Ex P P2 ∧ SOk K Γ' P2 σ ∧ MOk K M' P2 H2
structure Po where
  nx : Sl → Mem → Prop
  rt : VP
  bk : Sl → Mem → Prop := fun _ _ => False
  ct : Sl → Mem → Prop := fun _ _ => False
def Po.ends (K : PySem.W.Frag) (P : Hp) (Ψ : Po) : Ends := { nx := FinS K P Ψ.nx, rt := Fin K P Ψ.rt, bk := FinS K P Ψ.bk, ct := FinS K P Ψ.ct }
section
variable {K : PySem.W.Frag} {P P' : Hp}
theorem Fin.up {Φ : VP} {v : V} {H : Hp} (e : Ex P P') (h : Fin K P' Φ v H) : Fin K P Φ v H := let ⟨d, M, P2, a, b, c, f⟩ := h; ⟨d, M, P2, a, e.trans b, c, f⟩
theorem FinA.up {Φ : List D → Mem → Prop} {v : List V} {H : Hp} (e : Ex P P') (h : FinA K P' Φ v H) : FinA K P Φ v H := let ⟨d, M, P2, a, b, c, f⟩ := h; ⟨d, M, P2, a, e.trans b, c, f⟩
theorem FinB.up {Φ : Bool → Mem → Prop} {v : Bool} {H : Hp} (e : Ex P P') (h : FinB K P' Φ v H) : FinB K P Φ v H := let ⟨M, P2, a, b, c⟩ := h; ⟨M, P2, a, e.trans b, c⟩
theorem FinS.up {Φ : Sl → Mem → Prop} {σ : L2.St} {H : Hp} (e : Ex P P') (h : FinS K P' Φ σ H) : FinS K P Φ σ H := let ⟨Γ, M, P2, a, b, c, f⟩ := h; ⟨Γ, M, P2, a, e.trans b, c, f⟩
theorem Fin.imp {Φ Φ' : VP} {v : V} {H : Hp} (e : ∀ d M, Φ d M → Φ' d M) (h : Fin K P Φ v H) : Fin K P Φ' v H := let ⟨d, M, P2, a, b⟩ := h; ⟨d, M, P2, e _ _ a, b⟩
theorem FinS.imp {Φ Φ' : Sl → Mem → Prop} {σ : L2.St} {H : Hp} (e : ∀ d M, Φ d M → Φ' d M) (h : FinS K P Φ σ H) : FinS K P Φ' σ H := let ⟨d, M, P2, a, b⟩ := h; ⟨d, M, P2, e _ _ a, b⟩
theorem Po.up (Ψ : Po) (e : Ex P P') : EndsLe (Ψ.ends K P') (Ψ.ends K P) := ⟨fun _ _ h => h.up e, fun _ _ h => h.up e, fun _ _ h => h.up e, fun _ _ h => h.up e⟩
theorem Fin.one {Φ : VP} {v : V} {H : Hp} {d : D} {M : Mem} (h : Φ d M) (m : MOk K M P H) (i : IsD K P v d) : Fin K P Φ v H := ⟨d, M, P, h, Same.refl P, m, i⟩
end

/-! ### the judgements -/
def WE (X : Cx) (Γ : Sl) (M : Mem) (e : Expr) (Φ : VP) : Prop := ∀ P σ H, SOk X.K Γ P σ → MOk X.K M P H → wpT X e σ H (Fin X.K P Φ)
def WA (X : Cx) (Γ : Sl) (M : Mem) (es : List Expr) (Φ : List D → Mem → Prop) : Prop := ∀ P σ H, SOk X.K Γ P σ → MOk X.K M P H → wpA X es σ H (FinA X.K P Φ)
def WT (X : Cx) (Γ : Sl) (M : Mem) (e : Expr) (Φ : Bool → Mem → Prop) : Prop := ∀ P σ H, SOk X.K Γ P σ → MOk X.K M P H → wpB X e σ H (FinB X.K P Φ)
def WW (X : Cx) (Γ : Sl) (M : Mem) (e : Expr) (Φ : Bool → Mem → Prop) : Prop := ∀ P σ H, SOk X.K Γ P σ → MOk X.K M P H → wpW X e σ H (FinB X.K P Φ)
def W1 (X : Cx) (Γ : Sl) (M : Mem) (st : Stmt) (Ψ : Po) : Prop := ∀ P σ H, SOk X.K Γ P σ → MOk X.K M P H → wpS X st (Ψ.ends X.K P) σ H
def WS (X : Cx) (Γ : Sl) (M : Mem) (sts : List Stmt) (Ψ : Po) : Prop := ∀ P σ H, SOk X.K Γ P σ → MOk X.K M P H → wpSs X sts (Ψ.ends X.K P) σ H
/-- operations on data -/
def OpD (X : Cx) (f : Value → Value → Sem Value) (x y : D) (M : Mem) (Φ : VP) : Prop := ∀ P H a b, MOk X.K M P H → IsD X.K P a x → IsD X.K P b y → opT X f a b H (Fin X.K P Φ)
def UnD (X : Cx) (f : Value → Sem Value) (x : D) (M : Mem) (Φ : VP) : Prop := ∀ P H a, MOk X.K M P H → IsD X.K P a x → unT X f a H (Fin X.K P Φ)
def CaD (X : Cx) (f : Value) (xs : List D) (M : Mem) (Φ : VP) : Prop := ∀ P H as, MOk X.K M P H → IsDs X.K P as xs → caT X f as H (Fin X.K P Φ)
def TrD (X : Cx) (x : D) (M : Mem) (Φ : Bool → Mem → Prop) : Prop := ∀ P H a, MOk X.K M P H → IsD X.K P a x → trT X a H (FinB X.K P Φ)
section
variable {X : Cx} {Γ : Sl} {M : Mem} {Φ Φ' : VP} {Ψ : Po} {e a b c o : Expr} {es rest : List Expr} {pos p pos' : Pos} {st : Stmt} {sts : List Stmt} {B B' : Bool → Mem → Prop}
theorem WE.mono (h : WE X Γ M e Φ) (q : ∀ d M', Φ d M' → Φ' d M') : WE X Γ M e Φ' := fun P σ H s m => (h P σ H s m).mono fun _ _ z => z.imp q
theorem WT.mono (h : WT X Γ M e B) (q : ∀ d M', B d M' → B' d M') : WT X Γ M e B' := fun P σ H s m => (h P σ H s m).mono fun _ _ ⟨M', P2, a, b⟩ => ⟨M', P2, q _ _ a, b⟩
/-! ### names, constants -/
theorem we_var {i : Nat} {x : Str} {d : D} (hN : X.N[i]? = some x) (hv : Vis X.env.scope x) (hd : (x == ("__debug__" : Str)) = false) (hcd : (x == ("__classdict__" : Str)) = false) (hΓ : Γ[i]? = some (some d)) (h : Φ d M) : WE X Γ M (.Name x pos) Φ :=
  fun P σ H s m => by
    obtain ⟨v, h1, h2⟩ := s.at_ i d hΓ
    exact wpT_of (pe_var hN hv hd hcd) ⟨v, h1, .one h m h2⟩
theorem we_int {i j} (h : Φ (.int i) M) : WE X Γ M (.Constant (.int i) j pos) Φ := fun P σ H s m => wpT_of pe_int (.one h m .int)
theorem we_bl {b j} (h : Φ (.bl b) M) : WE X Γ M (.Constant (.bool b) j pos) Φ := fun P σ H s m => wpT_of pe_bl (.one h m .bl)
theorem we_non {j} (h : Φ .non M) : WE X Γ M (.Constant .none j pos) Φ := fun P σ H s m => wpT_of pe_non (.one h m .non)
theorem we_str {x j} (h : Φ (.str x) M) : WE X Γ M (.Constant (.str x) j pos) Φ := fun P σ H s m => wpT_of pe_str (.one h m .str)
theorem we_glob {x : Str} {a : Addr} (hg : Gl X x) (hm : X.mg x = some (.ref a)) (hd : (x == ("__debug__" : Str)) = false) (h : Φ (.adr a) M) : WE X Γ M (.Name x pos) Φ := fun P σ H s m => wpT_of (pe_glob (v := .ref a) hg hm rfl hd) (.one h m .adr)
theorem we_bty {x : Str} {n : String} (hg : Gl X x) (hm : X.mg x = none) (hv : bootBuiltins x = some (.type n)) (hn : x ≠ "__name__") (hd : (x == ("__debug__" : Str)) = false) (h : Φ (.ty n) M) : WE X Γ M (.Name x pos) Φ := fun P σ H s m => wpT_of (pe_bltn (v := .ty n) hg hm hv rfl hn hd) (.one h m .ty)
/-! ### argument lists -/
theorem wa_nil {Φ : List D → Mem → Prop} (h : Φ [] M) : WA X Γ M [] Φ := fun P σ H s m => wpA_of pa_nil ⟨[], M, P, h, Same.refl P, m, .nil⟩
theorem wa_cons {Φ : List D → Mem → Prop} (h : WE X Γ M e fun d M1 => WA X Γ M1 es fun ds M2 => Φ (d :: ds) M2) (hs : starEach (e :: es) X.env = (false, eval e X.env) :: starEach es X.env := by rfl) : WA X Γ M (e :: es) Φ := fun P σ H s m =>
  wpA_of (pa_cons pe_wp pa_wp hs) ((h P σ H s m).mono fun v H1 ⟨d, M1, P1, q, e1, m1, i1⟩ => (q P1 σ H1 (s.mono e1) m1).mono fun vs H2 ⟨ds, M2, P2, q2, e2, m2, i2⟩ => ⟨d :: ds, M2, P2, q2, e1.trans e2, m2, .cons (i1.mono e2) i2⟩)
/-! ### operators -/
theorem we_bin {op : Operator} (h : WE X Γ M a fun x M1 => WE X Γ M1 b fun y M2 => OpD X (binaryOp op) x y M2 Φ) : WE X Γ M (.BinOp a op b pos) Φ := fun P σ H s m =>
  wpT_of (pe_op op_wp pe_wp pe_wp) ((h P σ H s m).mono fun v H1 ⟨d, M1, P1, q, e1, m1, i1⟩ => (q P1 σ H1 (s.mono e1) m1).mono fun u H2 ⟨d2, M2, P2, q2, e2, m2, i2⟩ => (q2 P2 H2 v u m2 (i1.mono e2) i2).mono fun _ _ z => z.up (e1.trans e2))
theorem we_cmp {op : CmpOp} (h : WE X Γ M a fun x M1 => WE X Γ M1 b fun y M2 => OpD X (compareOp op) x y M2 Φ) (hm : behindInMarks op b = false) : WE X Γ M (.Compare a [op] [b] pos) Φ := fun P σ H s m =>
  wpT_of (pe_cmpR op_wp pe_wp pe_wp hm) ((h P σ H s m).mono fun v H1 ⟨d, M1, P1, q, e1, m1, i1⟩ => (q P1 σ H1 (s.mono e1) m1).mono fun u H2 ⟨d2, M2, P2, q2, e2, m2, i2⟩ => (q2 P2 H2 v u m2 (i1.mono e2) i2).mono fun _ _ z => z.up (e1.trans e2))
theorem we_un {op : UnaryOp} (h : WE X Γ M a fun x M1 => UnD X (unaryOp op) x M1 Φ) : WE X Γ M (.UnaryOp op a pos) Φ := fun P σ H s m =>
  wpT_of (pe_un un_wp pe_wp) ((h P σ H s m).mono fun v H1 ⟨d, M1, P1, q, e1, m1, i1⟩ => (q P1 H1 v m1 i1).mono fun _ _ z => z.up e1)
/-! ### tests -/
theorem wt_val (h : WE X Γ M e fun d M1 => TrD X d M1 B) (he : ∀ whole, isTrue e X.env whole = (do let v ← whole; standAt e.pos; holding [v] (truthy v))) : WT X Γ M e B := fun P σ H s m => fun pins sh I =>
  isTrue_plain (thn (h P σ H s m pins sh I) fun v s1 ⟨x, H1, I1, r1, d, M1, P1, q, e1, m1, i1⟩ => thn (q P1 H1 x m1 i1 pins σ s1 v I1 r1) fun b s2 ⟨H2, I2, z⟩ => ⟨H2, I2, z.up e1⟩) (he _)
theorem wt_cmp {op : CmpOp} (h : WE X Γ M a fun x M1 => WE X Γ M1 b fun y M2 => OpD X (compareOp op) x y M2 fun d M3 => ∃ k, d = .bl k ∧ B k M3) (hm : behindInMarks op b = false) : WT X Γ M (.Compare a [op] [b] pos) B := fun P σ H s m =>
  wpB_of (pt_cmpR op_wp pe_wp pe_wp hm) ((h P σ H s m).mono fun v H1 ⟨d, M1, P1, q, e1, m1, i1⟩ => (q P1 σ H1 (s.mono e1) m1).mono fun u H2 ⟨d2, M2, P2, q2, e2, m2, i2⟩ => (q2 P2 H2 v u m2 (i1.mono e2) i2).mono fun w H3 ⟨d3, M3, P3, ⟨k, ek, q3⟩, e3, m3, i3⟩ => by
    subst ek
    cases i3
    exact ⟨k, rfl, M3, P3, q3, (e1.trans e2).trans e3, m3⟩)
theorem wt_not (h : WT X Γ M a fun k M1 => B (!k) M1) : WT X Γ M (.UnaryOp .Not a pos) B := fun P σ H s m =>
  wpB_of (pt_not pt_wp) ((h P σ H s m).mono fun k H1 z => z)
theorem wt_bool {op} {l : List Expr} (h : WW X Γ M (.BoolOp op l pos) B) : WT X Γ M (.BoolOp op l pos) B := fun P σ H s m => wpB_of pw_wp.pt (h P σ H s m)
theorem ww_and1 (h : WT X Γ M a B) : WW X Γ M (.BoolOp .And [a] pos) B := fun P σ H s m => wpW_of (pw_and1 pt_wp) (h P σ H s m)
theorem ww_or1 (h : WT X Γ M a B) : WW X Γ M (.BoolOp .Or [a] pos) B := fun P σ H s m => wpW_of (pw_or1 pt_wp) (h P σ H s m)
theorem ww_and (h : WT X Γ M a fun k M1 => (k = true → WW X Γ M1 (.BoolOp .And (b :: rest) pos) B) ∧ (k = false → B false M1)) : WW X Γ M (.BoolOp .And (a :: b :: rest) pos) B := fun P σ H s m =>
  wpW_of (pw_and pt_wp pw_wp) ((h P σ H s m).mono fun k H1 ⟨M1, P1, q, e1, m1⟩ => by
    cases k with
    | true => exact iteT ((q.1 rfl P1 σ H1 (s.mono e1) m1).mono fun _ _ z => z.up e1)
    | false => exact iteF ⟨M1, P1, q.2 rfl, e1, m1⟩)
theorem ww_or (h : WT X Γ M a fun k M1 => (k = true → B true M1) ∧ (k = false → WW X Γ M1 (.BoolOp .Or (b :: rest) pos) B)) : WW X Γ M (.BoolOp .Or (a :: b :: rest) pos) B := fun P σ H s m =>
  wpW_of (pw_or pt_wp pw_wp) ((h P σ H s m).mono fun k H1 ⟨M1, P1, q, e1, m1⟩ => by
    cases k with
    | true => exact iteT ⟨M1, P1, q.1 rfl, e1, m1⟩
    | false => exact iteF ((q.2 rfl P1 σ H1 (s.mono e1) m1).mono fun _ _ z => z.up e1))
/-- a < b < c -/
theorem we_chain {op op' : CmpOp} (h : WE X Γ M a fun x M1 => WE X Γ M1 b fun y M2 => OpD X (compareOp op) x y M2 fun d M3 => ∃ k, d = .bl k ∧ (k = true → WE X Γ M3 c fun z M4 => OpD X (compareOp op') y z M4 Φ) ∧ (k = false → Φ (.bl false) M3))
    (hq : PE X (.Compare a [op, op'] [b, c] pos) (tChain (opT X (compareOp op)) (opT X (compareOp op')) (wpT X a) (wpT X b) (wpT X c)) := by exact pe_chain op_wp op_wp pe_wp pe_wp pe_wp) : WE X Γ M (.Compare a [op, op'] [b, c] pos) Φ := fun P σ H s m =>
  wpT_of hq ((h P σ H s m).mono fun v H1 ⟨d, M1, P1, q, e1, m1, i1⟩ => (q P1 σ H1 (s.mono e1) m1).mono fun u H2 ⟨d2, M2, P2, q2, e2, m2, i2⟩ => (q2 P2 H2 v u m2 (i1.mono e2) i2).mono fun w H3 ⟨d3, M3, P3, ⟨k, ek, qt, qf⟩, e3, m3, i3⟩ => by
    subst ek
    cases i3
    refine ⟨k, rfl, ?_⟩
    cases k with
    | true => exact iteT ((qt rfl P3 σ H3 (s.mono ((e1.trans e2).trans e3)) m3).mono fun w' H4 ⟨d4, M4, P4, q4, e4, m4, i4⟩ => (q4 P4 H4 u w' m4 ((i2.mono e3).mono e4) i4).mono fun _ _ z => z.up (((e1.trans e2).trans e3).trans e4))
    | false => exact iteF ⟨_, M3, P3, qf rfl, (e1.trans e2).trans e3, m3, .bl⟩)
theorem wt_of_we (h : WE X Γ M e fun d M1 => ∃ k, d = .bl k ∧ B k M1) (he : ∀ whole, isTrue e X.env whole = (do let v ← whole; standAt e.pos; holding [v] (truthy v))) : WT X Γ M e B := fun P σ H s m =>
  wpB_of (pt_val pe_wp he) ((h P σ H s m).mono fun v H1 ⟨d, M1, P1, ⟨k, ek, q⟩, e1, m1, i1⟩ => by
    subst ek
    cases i1
    exact ⟨k, rfl, M1, P1, q, e1, m1⟩)
/-- a if t else b -/
theorem we_if (h : WT X Γ M c fun k M1 => (k = true → WE X Γ M1 a Φ) ∧ (k = false → WE X Γ M1 b Φ)) : WE X Γ M (.IfExp c a b pos) Φ := fun P σ H s m =>
  wpT_of (pe_ifExp pt_wp pe_wp pe_wp) ((h P σ H s m).mono fun k H1 ⟨M1, P1, q, e1, m1⟩ => by
    cases k with
    | true => exact iteT ((q.1 rfl P1 σ H1 (s.mono e1) m1).mono fun _ _ z => z.up e1)
    | false => exact iteF ((q.2 rfl P1 σ H1 (s.mono e1) m1).mono fun _ _ z => z.up e1))
/-- x and y, x or y of truth values -/
theorem we_one {op} (h : WE X Γ M a Φ) : WE X Γ M (.BoolOp op [a] pos) Φ := fun P σ H s m => wpT_of (pe_one pe_wp) (h P σ H s m)
theorem we_and (h : WE X Γ M a fun d M1 => ∃ k, d = .bl k ∧ (k = true → WE X Γ M1 (.BoolOp .And (b :: rest) pos) Φ) ∧ (k = false → Φ (.bl false) M1)) : WE X Γ M (.BoolOp .And (a :: b :: rest) pos) Φ := fun P σ H s m =>
  wpT_of (pe_and pe_wp pe_wp) ((h P σ H s m).mono fun v H1 ⟨d, M1, P1, ⟨k, ek, qt, qf⟩, e1, m1, i1⟩ => by
    subst ek
    cases i1
    refine ⟨k, rfl, ?_⟩
    cases k with
    | true => exact iteT ((qt rfl P1 σ H1 (s.mono e1) m1).mono fun _ _ z => z.up e1)
    | false => exact iteF ⟨_, M1, P1, qf rfl, e1, m1, .bl⟩)
theorem we_or (h : WE X Γ M a fun d M1 => ∃ k, d = .bl k ∧ (k = true → Φ (.bl true) M1) ∧ (k = false → WE X Γ M1 (.BoolOp .Or (b :: rest) pos) Φ)) : WE X Γ M (.BoolOp .Or (a :: b :: rest) pos) Φ := fun P σ H s m =>
  wpT_of (pe_or pe_wp pe_wp) ((h P σ H s m).mono fun v H1 ⟨d, M1, P1, ⟨k, ek, qt, qf⟩, e1, m1, i1⟩ => by
    subst ek
    cases i1
    refine ⟨k, rfl, ?_⟩
    cases k with
    | true => exact iteT ⟨_, M1, P1, qt rfl, e1, m1, .bl⟩
    | false => exact iteF ((qf rfl P1 σ H1 (s.mono e1) m1).mono fun _ _ z => z.up e1))
/-- not x as a value -/
theorem we_not (h : WT X Γ M a fun k M1 => Φ (.bl (!k)) M1) (hq : ∀ pins σ H s (Q : VK), Inv X pins σ H s → wpB X a σ H (fun k H' => Q (.bl (!k)) H') → wpAny (model X.prog X.w) X.A (eval (.UnaryOp .Not a pos) X.env) (EP X pins σ Q) X.xe s) : WE X Γ M (.UnaryOp .Not a pos) Φ := fun P σ H s m pins sh I =>
  hq pins σ H sh _ I ((h P σ H s m).mono fun k H1 ⟨M1, P1, q, e1, m1⟩ => ⟨_, M1, P1, q, e1, m1, .bl⟩)
/-! ### new tuples, new lists -/
theorem we_tup {x1} (h : WA X Γ M es fun ds M1 => ds.length ≤ sizeLine ∧ Φ (.tup ds) M1) : WE X Γ M (.Tuple es x1 pos) Φ := fun P σ H s m =>
  wpT_of (pe_tup pa_wp) ((h P σ H s m).mono fun vs H1 ⟨ds, M1, P1, ⟨hl, q⟩, e1, m1, i1⟩ => ⟨by rw [i1.1]; exact hl, fun p hp => by
    obtain ⟨m2, e2⟩ := m1.push (o := .tup vs) hp
    exact ⟨_, M1, _, q, e1.trans e2, m2, .tup (SqT.of upd_same) i1.1 fun i x d a b => (i1.2 i x d a b).mono e2⟩⟩)
theorem we_lst (h : WA X Γ M es fun ds M1 => ds.length ≤ sizeLine ∧ Φ (.lst ds) M1) : WE X Γ M (.List es pos) Φ := fun P σ H s m =>
  wpT_of (pe_lst pa_wp) ((h P σ H s m).mono fun vs H1 ⟨ds, M1, P1, ⟨hl, q⟩, e1, m1, i1⟩ => ⟨by rw [i1.1]; exact hl, fun p hp => by
    obtain ⟨m2, e2⟩ := m1.push (o := .lst vs) hp
    exact ⟨_, M1, _, q, e1.trans e2, m2, .lst (SqL.of upd_same) i1.1 fun i x d a b => (i1.2 i x d a b).mono e2⟩⟩)
/-- a list of one's own -/
theorem we_lstO (h : WA X Γ M es fun ds M1 => ds.length ≤ sizeLine ∧ ∀ l, Φ (.adr l) ((l, .lst ds) :: M1)) : WE X Γ M (.List es pos) Φ := fun P σ H s m =>
  wpT_of (pe_lst pa_wp) ((h P σ H s m).mono fun vs H1 ⟨ds, M1, P1, ⟨hl, q⟩, e1, m1, i1⟩ => ⟨by rw [i1.1]; exact hl, fun p hp =>
    ⟨_, _, P1, q p, e1, m1.own hp ⟨vs, upd_same, i1⟩, .adr⟩⟩)
/-! ### built-in calls -/
theorem we_callB {x : Str} {id : String} (hg : Gl X x) (hm : X.mg x = none) (hv : bootBuiltins x = some (.builtin id)) (hn : x ≠ "__name__") (hdb : (x == ("__debug__" : Str)) = false) (h : WA X Γ M (e :: es) fun ds M1 => CaD X (.builtin id) ds M1 Φ)
    (hq : PE X (.Call (.Name x p) (e :: es) [] pos) (tCB (caT X (.builtin id)) (wpA X (e :: es))) := by exact pe_callB ca_wp (by rfl) (by assumption) (by assumption) pa_wp) : WE X Γ M (.Call (.Name x p) (e :: es) [] pos) Φ := fun P σ H s m =>
  wpT_of hq ((h P σ H s m).mono fun vs H1 ⟨ds, M1, P1, q, e1, m1, i1⟩ => (q P1 H1 vs m1 i1).mono fun _ _ z => z.up e1)
theorem we_callTy {x : Str} {T : String} (hg : Gl X x) (hm : X.mg x = none) (hv : bootBuiltins x = some (.type T)) (hn : x ≠ "__name__") (hdb : (x == ("__debug__" : Str)) = false) (h : WA X Γ M (e :: es) fun ds M1 => CaD X (.type T) ds M1 Φ)
    (hq : PE X (.Call (.Name x p) (e :: es) [] pos) (tCB (caT X (.type T)) (wpA X (e :: es))) := by exact pe_callTy ca_wp (by rfl) (by assumption) (by assumption) pa_wp) : WE X Γ M (.Call (.Name x p) (e :: es) [] pos) Φ := fun P σ H s m =>
  wpT_of hq ((h P σ H s m).mono fun vs H1 ⟨ds, M1, P1, q, e1, m1, i1⟩ => (q P1 H1 vs m1 i1).mono fun _ _ z => z.up e1)
/-! ### blocks -/
theorem ws_nil (h : Ψ.nx Γ M) : WS X Γ M [] Ψ := fun P σ H s m => wpSs_of pss_nil ⟨Γ, M, P, h, Same.refl P, s, m⟩
theorem ws_cons (h : W1 X Γ M st { Ψ with nx := fun Γ' M' => WS X Γ' M' sts Ψ }) : WS X Γ M (st :: sts) Ψ := fun P σ H s m =>
  wpSs_of (pss_cons ps_wp pss_wp) ((h P σ H s m).mono ⟨fun σ' H' ⟨Γ', M', P', q, e, s', m'⟩ => (q P' σ' H' s' m').mono (Ψ.up e), fun _ _ z => z, fun _ _ z => z, fun _ _ z => z⟩)
/-- the last statement of a block -/
theorem ws_one (h : W1 X Γ M st Ψ) : WS X Γ M [st] Ψ := fun P σ H s m => wpSs_of (pss_one ps_wp) (h P σ H s m)
/-- what is shown of the state is weakened ahead of a block -/
theorem ws_weak {Γ' : Sl} {M' : Mem} (h : WS X Γ' M' sts Ψ) (hl : Γ'.length = Γ.length) (hi : ∀ (i : Nat) (d : D), Γ'[i]? = some (some d) → Γ[i]? = some (some d)) (hm : M'.Sublist M) : WS X Γ M sts Ψ := fun P σ H s m => h P σ H (s.weak hl hi) (m.sub hm)
/-- a list of one's own, in a slot, changes no more -/
theorem ws_freeze {i : Nat} {l : Addr} {ds : List D} (hi : Γ[i]? = some (some (.adr l))) (h : WS X (Γ.set i (some (.lst ds))) M sts Ψ) : WS X Γ ((l, .lst ds) :: M) sts Ψ := fun P σ H s m => by
  obtain ⟨hp, xs, hx, hd⟩ := m.at_ l _ List.mem_cons_self
  obtain ⟨m2, e2⟩ := m.freeze hx
  refine (h (upd P l (.lst xs)) σ H ?_ m2).mono (Ψ.up e2)
  obtain ⟨v, hv, iv⟩ := s.at_ i _ hi
  have ev : v = .ref l := by cases iv; rfl
  subst ev
  have hb := (List.getElem?_eq_some_iff.mp hv).1
  have hset : σ.set i (some (V.ref l)) = σ := by
    refine List.ext_getElem? fun j => ?_
    by_cases hj : i = j
    · subst hj
      rw [List.getElem?_set_self hb, hv]
    · rw [List.getElem?_set_ne hj]
  have s2 := (s.mono e2).set (i := i) (v := V.ref l) (d := .lst ds) (.lst (SqL.of upd_same) hd.1 fun j x d a b => (hd.2 j x d a b).mono e2)
  rw [hset] at s2
  exact s2
theorem w1_set {i : Nat} {x : Str} (hN : X.N.Nodup) (hi : X.N[i]? = some x) (hx : Loc X.env.scope x) (h : WE X Γ M e fun d M1 => Ψ.nx (Γ.set i (some d)) M1) (hs : swapsWith e (some (.Name x pos')) pos.line X.env = pure false)
    (hf : X.fn x = true ∨ X.env.scope.names.lookup x = some .local) : W1 X Γ M (.Assign [.Name x pos'] e pos) Ψ := fun P σ H s m =>
  wpS_of (ps_set hN hi hx pe_wp hs hf) ((h P σ H s m).mono fun v H1 ⟨d, M1, P1, q, e1, m1, i1⟩ => ⟨_, M1, P1, q, e1, (s.mono e1).set i1, m1⟩)
theorem w1_ret (h : WE X Γ M e Ψ.rt) : W1 X Γ M (.Return (some e) pos) Ψ := fun P σ H s m => wpS_of (ps_ret pe_wp) (h P σ H s m)
theorem w1_retN (h : Ψ.rt .non M) : W1 X Γ M (.Return none pos) Ψ := fun P σ H s m => wpS_of ps_retN (.one h m .non)
theorem w1_pass (h : Ψ.nx Γ M) : W1 X Γ M (.Pass pos) Ψ := fun P σ H s m => wpS_of ps_pass ⟨Γ, M, P, h, Same.refl P, s, m⟩
theorem w1_expr (h : WE X Γ M e fun _ M1 => Ψ.nx Γ M1) (hs : swapsWith e none pos.line X.env = pure false) : W1 X Γ M (.Expr e pos) Ψ := fun P σ H s m =>
  wpS_of (ps_expr pe_wp hs) ((h P σ H s m).mono fun v H1 ⟨d, M1, P1, q, e1, m1, i1⟩ => ⟨Γ, M1, P1, q, e1, s.mono e1, m1⟩)
theorem w1_if {A E : List Stmt} (h : WT X Γ M c fun k M1 => (k = true → WS X Γ M1 A Ψ) ∧ (k = false → WS X Γ M1 E Ψ)) : W1 X Γ M (.If c A E pos) Ψ := fun P σ H s m =>
  wpS_of (ps_if pt_wp pss_wp pss_wp) ((h P σ H s m).mono fun k H1 ⟨M1, P1, q, e1, m1⟩ => by
    cases k with
    | true => exact iteT ((q.1 rfl P1 σ H1 (s.mono e1) m1).mono (Ψ.up e1))
    | false => exact iteF ((q.2 rfl P1 σ H1 (s.mono e1) m1).mono (Ψ.up e1)))
end
end Dt

set_option Elab.async false
set_option linter.all false
set_option maxRecDepth 100000
set_option maxHeartbeats 2000000
/-! Dt, part 3: defs by data; numbers, places, attributes, methods, makers. -/
namespace Dt
open PySem PySem.Spec PyProof.Rows L2
/-! ### a def's promise by data -/
abbrev DS := List D → Mem → VP → Prop
def spOf (K : PySem.W.Frag) (S : DS) : Sp := fun vs H Q _ => ∃ P M ds Φ, IsDs K P vs ds ∧ MOk K M P H ∧ S ds M Φ ∧ ∀ v H', Fin K P Φ v H' → Q v H'
def startD (n : Nat) (ds : List D) : Sl := ds.map some ++ List.replicate (n - ds.length) none
theorem sok_start {K : PySem.W.Frag} {P : Hp} {N : List Str} {vs : List V} {ds : List D} (h : IsDs K P vs ds) : SOk K (startD N.length ds) P (L2.start N vs) := by
  have hl := h.1
  refine ⟨by unfold startD L2.start; rw [List.length_append, List.length_append, List.length_map, List.length_map, List.length_replicate, List.length_replicate, hl], fun i d q => ?_⟩
  unfold startD at q
  by_cases hi : i < ds.length
  · rw [List.getElem?_append_left (by rw [List.length_map]; exact hi), List.getElem?_map, List.getElem?_eq_getElem hi] at q
    have e : ds[i] = d := by simpa using q
    obtain ⟨x, hx, ix⟩ := h.get (i := i) (d := d) (by rw [List.getElem?_eq_getElem hi, e])
    refine ⟨x, ?_, ix⟩
    unfold L2.start
    rw [List.getElem?_append_left (by rw [List.length_map, hl]; exact hi), List.getElem?_map, hx]
    rfl
  · rw [List.getElem?_append_right (by rw [List.length_map]; omega)] at q
    have hm := List.mem_of_getElem? q
    have := (List.mem_replicate.mp hm).2
    cases this
section
variable {P : Program} {w : World} {K : PySem.W.Frag} {mg : Str → Option Value} {base : Heap} {x qual : Str} {params : Arguments} {body : List Stmt} {scope : Scope} {dvs : List V} {kws : List (Str × V)} {f : Addr} {fd : FuncData}
/-- THE RULE for a def by data -/
theorem fn_data {N ps : List Str} {k : Nat} {S : DS} (F : FunD K x qual params body scope dvs kws f fd) (Sc : FnScope N ps scope) (len : ∀ ds M Φ, S ds M Φ → ds.length = ps.length)
    (hbody : ∀ (cdv : Value) (A : Around) (outer : List Env) (s : Shared) (H : Hp) (E : XK) (ds : List D) (M : Mem) (Φ : VP), Room k (A.deeper (envOfC qual scope s.heap.objs.size f cdv)) → S ds M Φ →
      WS (cxOf CX0 P w K mg base N qual scope f cdv A outer s H E).nox (startD N.length ds) M body { nx := fun _ M' => Φ .non M', rt := Φ }) : FnOk P w K mg base CX0 (k + 1) f fd ps (spOf K S) := by
  refine F.ok Sc (fun vs H Q E h => ?_) (fun cdv A outer s H vs Q E hr h => ?_)
  · obtain ⟨P1, M, ds, Φ, i, m, hs, _⟩ := h
    rw [i.1]
    exact len _ _ _ hs
  · obtain ⟨P1, M, ds, Φ, i, m, hs, hq⟩ := h
    refine ⟨_, PSs.nox pss_wp, ?_⟩
    refine (hbody cdv A outer s H E ds M Φ hr hs P1 (L2.start N vs) H (sok_start i) m).mono ⟨fun σ' H' ⟨Γ', M', P', q, e, _, m'⟩ => hq _ _ ⟨.non, M', P', q, e, m', .non⟩, fun v H' z => hq v H' z, fun _ _ ⟨_, _, _, z, _⟩ => z.elim, fun _ _ ⟨_, _, _, z, _⟩ => z.elim⟩
end
/-- a def that the module's name x stands for -/
def HasFn (P : Program) (w : World) (K : PySem.W.Frag) (mg : Str → Option Value) (base : Heap) (k : Nat) (x : Str) (S : DS) : Prop :=
  ∃ f fd ps, FnOk P w K mg base CX0 k f fd ps (spOf K S) ∧ mg x = some (.ref f) ∧ PySem.W.keepIn K (.ref f) = true ∧ Binds K fd ps []
/-- a method m of the class at C -/
def HasMe (P : Program) (w : World) (K : PySem.W.Frag) (mg : Str → Option Value) (base : Heap) (k : Nat) (C : Addr) (m : Str) (S : DS) : Prop :=
  ∃ f fd ps, FnOk P w K mg base CX0 k f fd ps (spOf K S) ∧ Meth K C m f ∧ Binds K fd ps []
/-- a property m of the class at C -/
def HasPr (P : Program) (w : World) (K : PySem.W.Frag) (mg : Str → Option Value) (base : Heap) (k : Nat) (C : Addr) (m : Str) (S : DS) : Prop :=
  ∃ p f fd ps, FnOk P w K mg base CX0 k f fd ps (spOf K S) ∧ PropOf K C m p f ∧ Binds K fd ps []
/-- the class at C, of the name x, made by its __init__ -/
def HasMk (P : Program) (w : World) (K : PySem.W.Frag) (mg : Str → Option Value) (base : Heap) (k : Nat) (C : Addr) (x : Str) (S : DS) : Prop :=
  ∃ f fd ps, FnOk P w K mg base CX0 k f fd ps (spOf K S) ∧ Mk K C f ∧ mg x = some (.ref C) ∧ Binds K fd ps []
section
variable {X : Cx} {Γ : Sl} {M : Mem} {Φ : VP} {Ψ : Po} {e a b c o : Expr} {es : List Expr} {pos p pos' apos : Pos} {k : Nat} {x f : Str} {S : DS}
theorem sp_of {P : Hp} {H : Hp} {vs : List V} {ds : List D} {E : XK} {K : PySem.W.Frag} (i : IsDs K P vs ds) (m : MOk K M P H) (s : S ds M Φ) : spOf K S (vs ++ []) H (Fin K P Φ) E := ⟨P, M, ds, Φ, by rw [List.append_nil]; exact i, m, s, fun _ _ z => z⟩
/-- f(e, ..) -/
theorem we_call (F : HasFn X.prog X.w X.K X.mg X.base k x S) (hr : Room k X.A) (hg : Gl X x) (h : WA X Γ M (e :: es) fun ds M1 => S ds M1 Φ) (hdb : (x == ("__debug__" : Str)) = false) (he : starEach (e :: es) X.env = (false, eval e X.env) :: starEach es X.env)
    (hpl : (backTo pos (starEach es X.env)).any (·.1) = false) : WE X Γ M (.Call (.Name x p) (e :: es) [] pos) Φ := fun P σ H s m => by
  obtain ⟨f, fd, ps, F1, hm, hk, hb⟩ := F
  exact wpT_of (pe_call F1 hr hg hm hk hb .nil pass0 pa_wp hdb he hpl) ((h P σ H s m).mono fun vs H1 ⟨ds, M1, P1, q, e1, m1, i1⟩ => by
    obtain ⟨P2, M2, d2, Φ2, a1, a2, a3, a4⟩ := sp_of (E := E0) i1 m1 q
    exact ⟨P2, M2, d2, Φ2, a1, a2, a3, fun v H' z => (a4 v H' z).up e1⟩)
theorem we_call0 (F : HasFn X.prog X.w X.K X.mg X.base k x S) (hr : Room k X.A) (hg : Gl X x) (h : S [] M Φ) (hdb : (x == ("__debug__" : Str)) = false) : WE X Γ M (.Call (.Name x p) [] [] pos) Φ := fun P σ H s m => by
  obtain ⟨f, fd, ps, F1, hm, hk, hb⟩ := F
  exact wpT_of (pe_call0 F1 hr hg hm hk hb .nil pass0 hdb) (sp_of (E := E0) .nil m h)
/-! ### objects -/
/-- an object of the class at C with these attributes, one's own (in M) or not -/
def ObjD (M : Mem) (d : D) (C : Addr) (fs : List (Str × D)) : Prop := d = .obj C fs ∨ ∃ (j : Nat) (l : Addr), d = .adr l ∧ M[j]? = some (l, .ins C fs)
theorem ObjD.at_ {K : PySem.W.Frag} {P H : Hp} {d : D} {C : Addr} {fs : List (Str × D)} {v : V} (h : ObjD M d C fs) (m : MOk K M P H) (i : IsD K P v d) : ∃ a dx xs, v = .ref a ∧ H a = some (.ins C dx xs) ∧ IsFs K P xs fs := by
  rcases h with rfl | ⟨j, l, rfl, hl⟩
  · cases i with
    | obj h hl hi => exact ⟨_, _, _, rfl, m.ex _ _ h, hl, hi⟩
  · cases i
    obtain ⟨_, dx, xs, h1, h2⟩ := m.get hl
    exact ⟨_, dx, xs, rfl, h1, h2⟩
/-- an attribute, by data -/
def AtD (X : Cx) (f : Str) (d : D) (M : Mem) (Φ : VP) : Prop := ∀ P H v, MOk X.K M P H → IsD X.K P v d → ∀ pins σ s u, Inv X pins σ H s → RelV v u → wpAny (model X.prog X.w) X.A (getAttr u f true) (EP X pins σ (Fin X.K P Φ)) X.xe s
theorem we_attr (h : WE X Γ M e fun d M1 => AtD X f d M1 Φ) (hb : attributeBase e f X.env (eval e X.env) = eval e X.env) : WE X Γ M (.Attribute e f pos) Φ := fun P σ H s m pins sh I =>
  attr_of hb (thn (h P σ H s m pins sh I) fun u s1 ⟨v, H1, I1, r1, d, M1, P1, q, e1, m1, i1⟩ => thn (q P1 H1 v m1 i1 pins σ s1 u I1 r1) fun u2 s2 ⟨v2, H2, I2, r2, z⟩ => ⟨v2, H2, I2, r2, z.up e1⟩)
theorem at_fld {d v : D} {C : Addr} {fs : List (Str × D)} (ho : ObjD M d C fs) (hl : fs.lookup f = some v) (c : Cls X.K C) (n : NoAttr X.K C f) (h : Φ v M) : AtD X f d M Φ := fun P H v1 m i pins σ s u I r => by
  obtain ⟨a, dx, xs, rfl, ha, hx⟩ := ho.at_ m i
  cases r
  obtain ⟨y, h1, h2⟩ := hx.lookup hl
  exact getattr_ok I ha c n h1 fun u' s2 I2 ru => ⟨y, H, I2, ru, v, M, P, h, Same.refl P, m, h2⟩
theorem at_prop {d : D} {C : Addr} {fs : List (Str × D)} (F : HasPr X.prog X.w X.K X.mg X.base k C f S) (hr : Room (k + 1) X.A) (ho : ObjD M d C fs) (c : Cls X.K C) (h : S [d] M Φ) : AtD X f d M Φ := fun P H v1 m i pins σ s u I r => by
  obtain ⟨a, dx, xs, rfl, ha, hx⟩ := ho.at_ m i
  cases r
  obtain ⟨p, g, fd, ps, F1, hp, hb⟩ := F
  exact getprop_ok I ha c hp F1 hr hb .nil pass0 (sp_of (vs := [.ref a]) (.cons i .nil) m h)
/-- o.m(e, ..) -/
theorem we_meth {m : Str} {C : Addr} (F : HasMe X.prog X.w X.K X.mg X.base k C m S) (hr : Room k X.A) (c : Cls X.K C) (h : WE X Γ M o fun d M1 => (∃ fs, ObjD M1 d C fs ∧ fs.lookup m = none) ∧ WA X Γ M1 (e :: es) fun ds M2 => S (d :: ds) M2 Φ)
    {pl : Sem Bool} (hst : starEach (e :: es) X.env = (false, eval e X.env) :: starEach es X.env) (hpl : (backTo pos (starEach es X.env)).any (·.1) = false)
    (ht : eval (.Call (.Attribute o m apos) (e :: es) [] pos) X.env = (do
      let ov ← eval o X.env
      standAt apos.atName
      let (f, first) ← holding [ov] (getMethod ov m pl)
      callWith pos f first (backTo pos (starEach (e :: es) X.env)) (backToKw pos (keywordEach [] X.env)))) : WE X Γ M (.Call (.Attribute o m apos) (e :: es) [] pos) Φ := fun P σ H s mo => by
  obtain ⟨f, fd, ps, F1, hm, hb⟩ := F
  refine wpT_of (pe_meth pe_wp c hm F1 hr hb .nil pass0 pa_wp hst hpl ht) ((h P σ H s mo).mono fun v H1 ⟨d, M1, P1, ⟨⟨fs, ho, hn⟩, q⟩, e1, m1, i1⟩ => ?_)
  obtain ⟨a, dx, xs, rfl, ha, hx⟩ := ho.at_ m1 i1
  refine ⟨a, dx, xs, rfl, ha, hx.lookup_none hn, (q P1 σ H1 (s.mono e1) m1).mono fun vs H2 ⟨ds, M2, P2, q2, e2, m2, i2⟩ => ?_⟩
  obtain ⟨P3, M3, d3, Φ3, a1, a2, a3, a4⟩ := sp_of (E := E0) (vs := .ref a :: vs) (.cons (i1.mono e2) i2) m2 q2
  exact ⟨P3, M3, d3, Φ3, a1, a2, a3, fun v H' z => (a4 v H' z).up (e1.trans e2)⟩
theorem we_meth0 {m : Str} {C : Addr} (F : HasMe X.prog X.w X.K X.mg X.base k C m S) (hr : Room k X.A) (c : Cls X.K C) (h : WE X Γ M o fun d M1 => (∃ fs, ObjD M1 d C fs ∧ fs.lookup m = none) ∧ S [d] M1 Φ)
    {pl : Sem Bool} (ht : eval (.Call (.Attribute o m apos) [] [] pos) X.env = (do
      let ov ← eval o X.env
      standAt apos.atName
      let (f, first) ← holding [ov] (getMethod ov m pl)
      callWith pos f first (backTo pos (starEach [] X.env)) (backToKw pos (keywordEach [] X.env)))) : WE X Γ M (.Call (.Attribute o m apos) [] [] pos) Φ := fun P σ H s mo => by
  obtain ⟨f, fd, ps, F1, hm, hb⟩ := F
  refine wpT_of (pe_meth0 pe_wp c hm F1 hr hb .nil pass0 ht) ((h P σ H s mo).mono fun v H1 ⟨d, M1, P1, ⟨⟨fs, ho, hn⟩, q⟩, e1, m1, i1⟩ => ?_)
  obtain ⟨a, dx, xs, rfl, ha, hx⟩ := ho.at_ m1 i1
  refine ⟨a, dx, xs, rfl, ha, hx.lookup_none hn, ?_⟩
  obtain ⟨P3, M3, d3, Φ3, a1, a2, a3, a4⟩ := sp_of (E := E0) (vs := [.ref a]) (.cons i1 .nil) m1 q
  exact ⟨P3, M3, d3, Φ3, a1, a2, a3, fun v H' z => (a4 v H' z).up e1⟩
/-- C(e, ..) -/
theorem we_make {C : Addr} (F : HasMk X.prog X.w X.K X.mg X.base k C x S) (hr : Room (k + 1) X.A) (hg : Gl X x) (h : WA X Γ M (e :: es) fun ds M1 => ∀ l, S (.adr l :: ds) ((l, .ins C []) :: M1) fun r M2 => r = .non ∧ Φ (.adr l) M2)
    (hdb : (x == ("__debug__" : Str)) = false) (he : starEach (e :: es) X.env = (false, eval e X.env) :: starEach es X.env) (hpl : (backTo pos (starEach es X.env)).any (·.1) = false) : WE X Γ M (.Call (.Name x p) (e :: es) [] pos) Φ := fun P σ H s m => by
  obtain ⟨f, fd, ps, F1, mk, hm, hb⟩ := F
  refine wpT_of (pe_make mk F1 hr hg hm hb .nil pass0 pa_wp hdb he hpl) ((h P σ H s m).mono fun vs H1 ⟨ds, M1, P1, q, e1, m1, i1⟩ => ?_)
  intro l dx hl hdx hne
  obtain ⟨m2, e2⟩ := m1.push (o := .own l) hdx
  have hl2 : upd H1 dx (.own l) l = none := by
    rw [upd_ne (fun z => hne z.symm)]
    exact hl
  have m3 : MOk X.K ((l, .ins C []) :: M1) (upd P1 dx (.own l)) (upd (upd H1 dx (.own l)) l (.ins C dx [])) := m2.own hl2 ⟨dx, [], upd_same, .nil⟩
  obtain ⟨P3, M3, d3, Φ3, a1, a2, a3, a4⟩ := sp_of (E := E0) (vs := .ref l :: vs) (.cons .adr (i1.mono e2)) m3 (q l)
  refine ⟨P3, M3, d3, Φ3, a1, a2, a3, fun v H' z => ?_⟩
  obtain ⟨d4, M4, P4, ⟨z1, z2⟩, z3, z4, z5⟩ := a4 v H' z
  subst z1
  cases z5
  exact ⟨rfl, _, M4, P4, z2, (e1.trans e2).trans z3, z4, .adr⟩
/-- .. and it changes no more -/
theorem frz_ins {K : PySem.W.Frag} {P H : Hp} {l C : Addr} {fs : List (Str × D)} (m : MOk K ((l, .ins C fs) :: M) P H) : ∃ P2, Ex P P2 ∧ MOk K M P2 H ∧ IsD K P2 (.ref l) (.obj C fs) := by
  obtain ⟨_, dx, xs, h1, h2⟩ := m.at_ l _ List.mem_cons_self
  obtain ⟨m2, e2⟩ := m.freeze h1
  exact ⟨_, e2, m2, .obj upd_same h2.1 fun i x d a b => (h2.2 i x d a b).mono e2⟩
theorem frz_lst {K : PySem.W.Frag} {P H : Hp} {l : Addr} {ds : List D} (m : MOk K ((l, .lst ds) :: M) P H) : ∃ P2, Ex P P2 ∧ MOk K M P2 H ∧ IsD K P2 (.ref l) (.lst ds) := by
  obtain ⟨_, xs, h1, h2⟩ := m.at_ l _ List.mem_cons_self
  obtain ⟨m2, e2⟩ := m.freeze h1
  exact ⟨_, e2, m2, .lst (SqL.of upd_same) h2.1 fun i x d a b => (h2.2 i x d a b).mono e2⟩
theorem we_makeF {C : Addr} (F : HasMk X.prog X.w X.K X.mg X.base k C x S) (hr : Room (k + 1) X.A) (hg : Gl X x) (h : WA X Γ M (e :: es) fun ds M1 => ∀ l, S (.adr l :: ds) ((l, .ins C []) :: M1) fun r M2 => r = .non ∧ ∃ fs M3, M2 = (l, .ins C fs) :: M3 ∧ Φ (.obj C fs) M3)
    (hdb : (x == ("__debug__" : Str)) = false) (he : starEach (e :: es) X.env = (false, eval e X.env) :: starEach es X.env) (hpl : (backTo pos (starEach es X.env)).any (·.1) = false) : WE X Γ M (.Call (.Name x p) (e :: es) [] pos) Φ := fun P σ H s m => by
  refine (we_make (Φ := fun d M2 => ∃ l fs M3, d = .adr l ∧ M2 = (l, .ins C fs) :: M3 ∧ Φ (.obj C fs) M3) F hr hg ?_ hdb he hpl P σ H s m).mono fun v H2 ⟨d, M2, P2, ⟨l, fs, M3, e1, e2, q⟩, e3, m3, i3⟩ => ?_
  · refine fun P σ H s m => (h P σ H s m).mono fun vs H1 ⟨ds, M1, P1, q, e1, m1, i1⟩ => ⟨ds, M1, P1, fun l => ?_, e1, m1, i1⟩
    have z := q l
    have e : (fun r M2 => r = D.non ∧ ∃ fs M3, M2 = (l, MO.ins C fs) :: M3 ∧ Φ (.obj C fs) M3) = fun r M2 => r = D.non ∧ ∃ l' fs M3, D.adr l = .adr l' ∧ M2 = (l', MO.ins C fs) :: M3 ∧ Φ (.obj C fs) M3 := by
      funext r M2
      refine propext ⟨fun ⟨a1, fs, M3, a2, a3⟩ => ⟨a1, l, fs, M3, rfl, a2, a3⟩, fun ⟨a1, l', fs, M3, a0, a2, a3⟩ => ⟨a1, fs, M3, ?_, a3⟩⟩
      cases a0
      exact a2
    rw [← e]
    exact z
  · subst e1 e2
    cases i3
    obtain ⟨P4, e4, m4, i4⟩ := frz_ins m3
    exact ⟨_, M3, P4, q, e3.trans e4, m4, i4⟩
/-- self.f = e -/
theorem w1_fld (h : WE X Γ M e fun d M1 => WE X Γ M1 o fun d2 M2 => ∃ (j : Nat) (l C : Addr) (fs : List (Str × D)), d2 = .adr l ∧ M2[j]? = some (l, .ins C fs) ∧ Cls X.K C ∧ NoAttr X.K C f ∧ fs.length < 1000 ∧ Ψ.nx Γ (M2.set j (l, .ins C (putD f d fs))))
    (hs : swapsWith e (some (.Attribute o f pos')) pos.line X.env = pure false) : W1 X Γ M (.Assign [.Attribute o f pos'] e pos) Ψ := fun P σ H s m =>
  wpS_of (ps_fld pe_wp pe_wp hs) ((h P σ H s m).mono fun v H1 ⟨d, M1, P1, q, e1, m1, i1⟩ => (q P1 σ H1 (s.mono e1) m1).mono fun u H2 ⟨d2, M2, P2, ⟨j, l, C, fs, ed, hj, c, n, hl, q2⟩, e2, m2, i2⟩ => by
    subst ed
    cases i2
    obtain ⟨_, dx, xs, h1, h2⟩ := m2.get hj
    refine ⟨l, C, dx, xs, rfl, h1, c, n, by rw [h2.length]; exact hl, Γ, _, P2, q2, e1.trans e2, s.mono (e1.trans e2), ?_⟩
    exact m2.put hj ⟨dx, _, upd_same, h2.put (i1.mono e2)⟩)
end
/-! ### numbers -/
section
variable {X : Cx} {M : Mem} {Φ : VP} {i j : Int}
theorem od_int {f : Value → Value → Sem Value} {C : Int → Int → Prop} {g : Int → Int → V} {d : D} (h : OpR X f (rI C g)) (hc : C i j) (hg : ∀ P, IsD X.K P (g i j) d) (q : Φ d M) : OpD X f (.int i) (.int j) M Φ := fun P H a b m ia ib => by
  cases ia
  cases ib
  exact opT_of h ⟨i, j, rfl, rfl, hc, .one q m (hg P)⟩
theorem od_int0 {f : Value → Value → Sem Value} {g : Int → Int → V} {d : D} (h : OpR X f (rI0 g)) (hg : ∀ P, IsD X.K P (g i j) d) (q : Φ d M) : OpD X f (.int i) (.int j) M Φ := fun P H a b m ia ib => by
  cases ia
  cases ib
  exact opT_of h ⟨i, j, rfl, rfl, .one q m (hg P)⟩
theorem od_add (q : Φ (.int (i + j)) M) : OpD X (binaryOp .Add) (.int i) (.int j) M Φ := od_int0 op_add (fun _ => .int) q
theorem od_sub (q : Φ (.int (i - j)) M) : OpD X (binaryOp .Sub) (.int i) (.int j) M Φ := od_int0 op_sub (fun _ => .int) q
theorem od_mul (hc : CMul i j) (q : Φ (.int (i * j)) M) : OpD X (binaryOp .Mult) (.int i) (.int j) M Φ := od_int op_mul hc (fun _ => .int) q
theorem od_mulW (hc : CMulW i j) (q : Φ (.int (i * j)) M) : OpD X (binaryOp .Mult) (.int i) (.int j) M Φ := od_int op_mulW hc (fun _ => .int) q
theorem od_fdivW (hc : CDivW i j) (q : Φ (.int (i / j)) M) : OpD X (binaryOp .FloorDiv) (.int i) (.int j) M Φ := od_int op_fdivW hc (fun _ => .int) q
theorem od_fdiv (hc : 0 < j ∧ j < 1073741824) (q : Φ (.int (i / j)) M) : OpD X (binaryOp .FloorDiv) (.int i) (.int j) M Φ := od_int op_fdiv hc (fun _ => .int) q
theorem od_mod (hc : 0 < j) (q : Φ (.int (i % j)) M) : OpD X (binaryOp .Mod) (.int i) (.int j) M Φ := od_int op_mod hc (fun _ => .int) q
theorem od_pow (hc : 0 ≤ j ∧ j ≤ 1000000 ∧ i.natAbs < 2 ^ 64) (q : Φ (.int (i ^ j.toNat)) M) : OpD X (binaryOp .Pow) (.int i) (.int j) M Φ := od_int op_pow hc (fun _ => .int) q
theorem od_lt (q : Φ (.bl (decide (i < j))) M) : OpD X (compareOp .Lt) (.int i) (.int j) M Φ := od_int0 op_lt (fun _ => .bl) q
theorem od_le (q : Φ (.bl (decide (i ≤ j))) M) : OpD X (compareOp .LtE) (.int i) (.int j) M Φ := od_int0 op_le (fun _ => .bl) q
theorem od_gt (q : Φ (.bl (decide (j < i))) M) : OpD X (compareOp .Gt) (.int i) (.int j) M Φ := od_int0 op_gt (fun _ => .bl) q
theorem od_ge (q : Φ (.bl (decide (j ≤ i))) M) : OpD X (compareOp .GtE) (.int i) (.int j) M Φ := od_int0 op_ge (fun _ => .bl) q
theorem od_eq (q : Φ (.bl (decide (i = j))) M) : OpD X (compareOp .Eq) (.int i) (.int j) M Φ := fun P H a b m ia ib => by
  cases ia
  cases ib
  have e : decide (V.int i = V.int j) = decide (i = j) := decide_eq_decide.mpr ⟨V.int.inj, fun z => by rw [z]⟩
  exact opT_of op_eq ⟨rfl, .one (by rw [← e] at q; exact q) m .bl⟩
theorem od_ne (q : Φ (.bl (!decide (i = j))) M) : OpD X (compareOp .NotEq) (.int i) (.int j) M Φ := fun P H a b m ia ib => by
  cases ia
  cases ib
  have e : decide (V.int i = V.int j) = decide (i = j) := decide_eq_decide.mpr ⟨V.int.inj, fun z => by rw [z]⟩
  exact opT_of op_ne ⟨rfl, .one (by rw [← e] at q; exact q) m .bl⟩
theorem od_eqS {x y : Str} (q : Φ (.bl (decide (x = y))) M) : OpD X (compareOp .Eq) (.str x) (.str y) M Φ := fun P H a b m ia ib => by
  cases ia
  cases ib
  have e : decide (V.str x = V.str y) = decide (x = y) := decide_eq_decide.mpr ⟨V.str.inj, fun z => by rw [z]⟩
  exact opT_of op_eq ⟨rfl, .one (by rw [← e] at q; exact q) m .bl⟩
theorem od_neS {x y : Str} (q : Φ (.bl (!decide (x = y))) M) : OpD X (compareOp .NotEq) (.str x) (.str y) M Φ := fun P H a b m ia ib => by
  cases ia
  cases ib
  have e : decide (V.str x = V.str y) = decide (x = y) := decide_eq_decide.mpr ⟨V.str.inj, fun z => by rw [z]⟩
  exact opT_of op_ne ⟨rfl, .one (by rw [← e] at q; exact q) m .bl⟩
/-- truth values -/
theorem od_eqB {x y : Bool} (q : Φ (.bl (decide (x = y))) M) : OpD X (compareOp .Eq) (.bl x) (.bl y) M Φ := fun P H a b m ia ib => by
  cases ia
  cases ib
  have e : decide (V.bl x = V.bl y) = decide (x = y) := decide_eq_decide.mpr ⟨V.bl.inj, fun z => by rw [z]⟩
  exact opT_of op_eq ⟨rfl, .one (by rw [← e] at q; exact q) m .bl⟩
theorem od_neB {x y : Bool} (q : Φ (.bl (!decide (x = y))) M) : OpD X (compareOp .NotEq) (.bl x) (.bl y) M Φ := fun P H a b m ia ib => by
  cases ia
  cases ib
  have e : decide (V.bl x = V.bl y) = decide (x = y) := decide_eq_decide.mpr ⟨V.bl.inj, fun z => by rw [z]⟩
  exact opT_of op_ne ⟨rfl, .one (by rw [← e] at q; exact q) m .bl⟩
def isNon : D → Bool
  | .non => true
  | _ => false
theorem isNon_v {K : PySem.W.Frag} {P : Hp} {v : V} {d : D} (h : IsD K P v d) : decide (v = .non) = isNon d := by
  cases h <;> rfl
theorem od_is {x : D} (q : Φ (.bl (isNon x)) M) : OpD X (compareOp .Is) x .non M Φ := fun P H a b m ia ib => by
  cases ib
  exact opT_of op_isN ⟨rfl, .one (by rw [isNon_v ia]; exact q) m .bl⟩
theorem od_isn {x : D} (q : Φ (.bl (!isNon x)) M) : OpD X (compareOp .IsNot) x .non M Φ := fun P H a b m ia ib => by
  cases ib
  exact opT_of op_notN ⟨rfl, .one (by rw [isNon_v ia]; exact q) m .bl⟩
theorem ud_neg (q : Φ (.int (-i)) M) : UnD X (unaryOp .USub) (.int i) M Φ := fun P H a m ia => by
  cases ia
  exact unT_of un_neg ⟨i, rfl, .one q m .int⟩
end
/-! ### truth -/
section
variable {X : Cx} {M : Mem} {B : Bool → Mem → Prop}
theorem tr_of {d : D} {k : Bool} (h : ∀ P H v, MOk X.K M P H → IsD X.K P v d → TruV X.K v H k) (q : B k M) : TrD X d M B := fun P H a m ia =>
  trT_of tru_ok ⟨k, h P H a m ia, M, P, q, Same.refl P, m⟩
theorem tr_bl {b : Bool} (q : B b M) : TrD X (.bl b) M B := tr_of (fun P H v m i => by cases i; exact rfl) q
theorem tr_non (q : B false M) : TrD X .non M B := tr_of (fun P H v m i => by cases i; exact rfl) q
theorem tr_int {i : Int} (q : B (i != 0) M) : TrD X (.int i) M B := tr_of (fun P H v m i => by cases i; exact rfl) q
theorem isE {K : PySem.W.Frag} {P : Hp} {xs : List V} {ds : List D} (h : xs.length = ds.length) : (!ds.isEmpty) = !xs.isEmpty := by
  cases xs with
  | nil => cases ds with
    | nil => rfl
    | cons d r => simp at h
  | cons x r => cases ds with
    | nil => simp at h
    | cons d r => rfl
theorem tr_lst {ds : List D} (q : B (!ds.isEmpty) M) : TrD X (.lst ds) M B := tr_of (fun P H v m i => by
  cases i with
  | lst h hl hi => exact .inl ⟨_, m.ex.seq h, isE (K := X.K) (P := P) hl⟩) q
theorem tr_tup {ds : List D} (q : B (!ds.isEmpty) M) : TrD X (.tup ds) M B := tr_of (fun P H v m i => by
  cases i with
  | tup h hl hi => exact .inr (.inl ⟨_, Same.tupS m.ex h, isE (K := X.K) (P := P) hl⟩)) q
end
/-! ### places of tuples, of lists -/
def IxD (X : Cx) (x y : D) (M : Mem) (Φ : VP) : Prop := ∀ P H a b, MOk X.K M P H → IsD X.K P a x → IsD X.K P b y → rIx X.K a b H (Fin X.K P Φ)
section
variable {X : Cx} {Γ : Sl} {M : Mem} {Φ : VP} {a b : Expr} {pos : Pos}
theorem we_ix (h : WE X Γ M a fun x M1 => WE X Γ M1 b fun y M2 => IxD X x y M2 Φ) (hs : PlainIx b) : WE X Γ M (.Subscript a b pos) Φ := fun P σ H s m =>
  wpT_of (pe_ix ix_seq pe_wp pe_wp hs) ((h P σ H s m).mono fun v H1 ⟨d, M1, P1, q, e1, m1, i1⟩ => (q P1 σ H1 (s.mono e1) m1).mono fun u H2 ⟨d2, M2, P2, q2, e2, m2, i2⟩ => by
    have z := q2 P2 H2 v u m2 (i1.mono e2) i2
    rcases z with ⟨p, xs, i, w, h1, h2, h3, h4, h5⟩ | ⟨p, xs, i, w, h1, h2, h3, h4, h5⟩ | ⟨y, i, c, h1, h2, h3, h4, h5⟩
    · exact .inl ⟨p, xs, i, w, h1, h2, h3, h4, h5.up (e1.trans e2)⟩
    · exact .inr (.inl ⟨p, xs, i, w, h1, h2, h3, h4, h5.up (e1.trans e2)⟩)
    · exact .inr (.inr ⟨y, i, c, h1, h2, h3, h4, h5.up (e1.trans e2)⟩))
theorem atI_rel {K : PySem.W.Frag} {P : Hp} {xs : List V} {ds : List D} {i : Int} {d : D} (hl : xs.length = ds.length) (hi : ∀ (i : Nat) x d, xs[i]? = some x → ds[i]? = some d → IsD K P x d) (h : atI ds i = some d) : ∃ v, atI xs i = some v ∧ IsD K P v d := by
  unfold atI at h ⊢
  rw [hl]
  cases e : ixN ds.length i with
  | none => rw [e] at h; cases h
  | some j =>
    rw [e] at h
    have h' : ds[j]? = some d := h
    have hj : j < xs.length := by rw [hl]; exact (List.getElem?_eq_some_iff.mp h').1
    exact ⟨xs[j], List.getElem?_eq_getElem hj, hi j _ d (List.getElem?_eq_getElem hj) h'⟩
theorem ix_tupI {ds : List D} {i : Int} {d : D} (h : atI ds i = some d) (q : Φ d M) : IxD X (.tup ds) (.int i) M Φ := fun P H v u m iv iu => by
  cases iu
  cases iv with
  | tup hs hl hi =>
    obtain ⟨w, h1, h2⟩ := atI_rel hl hi h
    exact .inr (.inl ⟨_, _, i, w, rfl, rfl, Same.tupS m.ex hs, h1, .one q m h2⟩)
theorem ix_lstI {ds : List D} {i : Int} {d : D} (h : atI ds i = some d) (q : Φ d M) : IxD X (.lst ds) (.int i) M Φ := fun P H v u m iv iu => by
  cases iu
  cases iv with
  | lst hs hl hi =>
    obtain ⟨w, h1, h2⟩ := atI_rel hl hi h
    exact .inl ⟨_, _, i, w, rfl, rfl, m.ex.seq hs, h1, .one q m h2⟩
theorem ix_tup {ds : List D} {j : Nat} {i : Int} {d : D} (hj : i = (j : Int)) (h : ds[j]? = some d) (q : Φ d M) : IxD X (.tup ds) (.int i) M Φ := ix_tupI (by rw [hj]; exact atI_nat h) q
theorem ix_lst {ds : List D} {j : Nat} {i : Int} {d : D} (hj : i = (j : Int)) (h : ds[j]? = some d) (q : Φ d M) : IxD X (.lst ds) (.int i) M Φ := ix_lstI (by rw [hj]; exact atI_nat h) q
theorem ix_ownI {ds : List D} {k : Nat} {l : Addr} {i : Int} {d : D} (hk : M[k]? = some (l, .lst ds)) (h : atI ds i = some d) (q : Φ d M) : IxD X (.adr l) (.int i) M Φ := fun P H v u m iv iu => by
  cases iu
  cases iv
  obtain ⟨_, xs, h1, h2⟩ := m.get hk
  obtain ⟨w, h3, h4⟩ := atI_rel h2.1 h2.2 h
  exact .inl ⟨_, xs, i, w, rfl, rfl, SqL.of h1, h3, .one q m h4⟩
theorem ix_own {ds : List D} {k j : Nat} {l : Addr} {i : Int} {d : D} (hk : M[k]? = some (l, .lst ds)) (hj : i = (j : Int)) (h : ds[j]? = some d) (q : Φ d M) : IxD X (.adr l) (.int i) M Φ := ix_ownI hk (by rw [hj]; exact atI_nat h) q
/-- l[i] = e -/
theorem w1_setI {o e : Expr} {pos' : Pos} {Ψ : Po} (h : WE X Γ M e fun d M1 => WE X Γ M1 o fun d2 M2 => WE X Γ M2 b fun d3 M3 => ∃ (k j : Nat) (l : Addr) (ds : List D) (i : Int), d2 = .adr l ∧ d3 = .int i ∧ M3[k]? = some (l, .lst ds) ∧ i = (j : Int) ∧ j < ds.length ∧ Ψ.nx Γ (M3.set k (l, .lst (ds.set j d))))
    (hg : PG X (.Subscript o b pos') (gSub (wpT X o) (wpT X b) rSetL) := by exact pg_sub pe_wp pe_wp set_list) (hs : swapsWithSole [.Subscript o b pos'] e pos.line X.env = pure false) (hw : swappedStores [.Subscript o b pos'] e X.env = pure none)
    (h1 : (assignEach [.Subscript o b pos'] X.env).map (·.2) = [assign (.Subscript o b pos') X.env]) : W1 X Γ M (.Assign [.Subscript o b pos'] e pos) Ψ := fun P σ H s m =>
  wpS_of (ps_asg pe_wp hg hs hw h1) ((h P σ H s m).mono fun v H1 ⟨d, M1, P1, q, e1, m1, i1⟩ => (q P1 σ H1 (s.mono e1) m1).mono fun u H2 ⟨d2, M2, P2, q2, e2, m2, i2⟩ => (q2 P2 σ H2 (s.mono (e1.trans e2)) m2).mono fun u3 H3 ⟨d3, M3, P3, ⟨k, j, l, ds, i, ea, eb, hk, hj, hb, q3⟩, e3, m3, i3⟩ => by
    subst ea eb hj
    cases i2
    cases i3
    obtain ⟨_, xs, h1, h2⟩ := m3.get hk
    refine ⟨l, xs, (j : Int), j, rfl, rfl, h1, ?_, Γ, _, P3, q3, (e1.trans e2).trans e3, s.mono ((e1.trans e2).trans e3), m3.put hk ⟨_, upd_same, ?_⟩⟩
    · unfold ixN
      rw [if_pos (by omega), if_pos (by rw [h2.1]; omega)]
      simp
    · refine ⟨by rw [List.length_set, List.length_set]; exact h2.1, fun n x d' a b => ?_⟩
      by_cases hn : j = n
      · subst hn
        rw [List.getElem?_set_self (by rw [h2.1]; exact hb)] at a
        rw [List.getElem?_set_self hb] at b
        cases a
        cases b
        exact (i1.mono e2).mono e3
      · rw [List.getElem?_set_ne hn] at a b
        exact h2.2 n x d' a b)
end
end Dt

set_option Elab.async false
set_option linter.all false
set_option maxRecDepth 100000
set_option maxHeartbeats 2000000
/-! Dt, part 4: targets, loops, comprehensions, lists that grow. -/
namespace Dt
open PySem PySem.Spec PyProof.Rows L2
/-! ### names in short -/
section
variable {X : Cx} {Γ : Sl} {M : Mem} {Φ : VP} {Ψ : Po} {e : Expr} {es : List Expr} {pos p pos' : Pos} {B : Bool → Mem → Prop}
theorem wv (i : Nat) {x : Str} {d : D} (hΓ : Γ[i]? = some (some d)) (h : Φ d M) (hN : X.N[i]? = some x := by rfl) (hv : Vis X.env.scope x := by first | exact Or.inl rfl | exact Or.inr (Or.inl rfl) | exact Or.inr (Or.inr rfl))
    (hd : (x == ("__debug__" : Str)) = false := by decide) (hcd : (x == ("__classdict__" : Str)) = false := by decide) : WE X Γ M (.Name x pos) Φ := we_var hN hv hd hcd hΓ h
theorem ws_set (i : Nat) {x : Str} {sts : List Stmt} (hN : X.N.Nodup) (h : WE X Γ M e fun d M1 => WS X (Γ.set i (some d)) M1 sts Ψ) (hi : X.N[i]? = some x := by rfl) (hx : Loc X.env.scope x := by first | exact Or.inl rfl | exact Or.inr rfl) (hs : swapsWith e (some (.Name x pos')) pos.line X.env = pure false := by rfl)
    (hf : X.fn x = true ∨ X.env.scope.names.lookup x = some .local := by first | exact .inl rfl | exact .inr rfl) : WS X Γ M (.Assign [.Name x pos'] e pos :: sts) Ψ := ws_cons (w1_set hN hi hx h hs hf)
theorem ws_ret {sts : List Stmt} (h : WE X Γ M e Ψ.rt) : WS X Γ M (.Return (some e) pos :: sts) Ψ := ws_cons (w1_ret h)
theorem ws_if {c : Expr} {A E sts : List Stmt} (h : WT X Γ M c fun k M1 => (k = true → WS X Γ M1 A { Ψ with nx := fun Γ' M' => WS X Γ' M' sts Ψ }) ∧ (k = false → WS X Γ M1 E { Ψ with nx := fun Γ' M' => WS X Γ' M' sts Ψ })) : WS X Γ M (.If c A E pos :: sts) Ψ := ws_cons (w1_if h)
theorem ws_expr {sts : List Stmt} (h : WE X Γ M e fun _ M1 => WS X Γ M1 sts Ψ) (hs : swapsWith e none pos.line X.env = pure false := by rfl) : WS X Γ M (.Expr e pos :: sts) Ψ := ws_cons (w1_expr h hs)
/-- what is shown once of an expression, a test, a block -/
theorem we_cut {Φ0 : VP} (h : WE X Γ M e Φ0) (q : ∀ d M', Φ0 d M' → Φ d M') : WE X Γ M e Φ := h.mono q
theorem wt_cut (b : Bool) (h : WT X Γ M e fun k M1 => k = b ∧ M1 = M) (q : B b M) : WT X Γ M e B := h.mono fun k M1 ⟨a, c⟩ => by
  subst a c
  exact q
theorem W1.mono {st : Stmt} {Ψ Ψ' : Po} (h : W1 X Γ M st Ψ) (a : ∀ Γ' M', Ψ.nx Γ' M' → Ψ'.nx Γ' M') (b : ∀ d M', Ψ.rt d M' → Ψ'.rt d M') (c : ∀ Γ' M', Ψ.bk Γ' M' → Ψ'.bk Γ' M') (d : ∀ Γ' M', Ψ.ct Γ' M' → Ψ'.ct Γ' M') : W1 X Γ M st Ψ' := fun P σ H s m =>
  (h P σ H s m).mono ⟨fun _ _ z => z.imp a, fun _ _ z => z.imp b, fun _ _ z => z.imp c, fun _ _ z => z.imp d⟩
theorem WS.mono {sts : List Stmt} {Ψ Ψ' : Po} (h : WS X Γ M sts Ψ) (a : ∀ Γ' M', Ψ.nx Γ' M' → Ψ'.nx Γ' M') (b : ∀ d M', Ψ.rt d M' → Ψ'.rt d M') (c : ∀ Γ' M', Ψ.bk Γ' M' → Ψ'.bk Γ' M') (d : ∀ Γ' M', Ψ.ct Γ' M' → Ψ'.ct Γ' M') : WS X Γ M sts Ψ' := fun P σ H s m =>
  (h P σ H s m).mono ⟨fun _ _ z => z.imp a, fun _ _ z => z.imp b, fun _ _ z => z.imp c, fun _ _ z => z.imp d⟩
/-- a statement, then the rest, with a word between them -/
theorem ws_mid {st : Stmt} {sts : List Stmt} (Mid : Sl → Mem → Prop) (h : W1 X Γ M st { Ψ with nx := Mid }) (q : ∀ Γ' M', Mid Γ' M' → WS X Γ' M' sts Ψ) : WS X Γ M (st :: sts) Ψ := ws_cons (h.mono q (fun _ _ z => z) (fun _ _ z => z) (fun _ _ z => z))
end
/-! ### targets -/
def wpG (X : Cx) (tg : Expr) : TG := fun v σ H Q => ∀ pins s u, Inv X pins σ H s → RelV v u → wpAny (model X.prog X.w) X.A (assign tg X.env u) (fun _ s' => ∃ σ' H', Inv X pins σ' H' s' ∧ Q σ' H') X.xe s
def wpGs (X : Cx) (ts : List Expr) : TGs := fun vs σ H Q => ∀ pins s us, Inv X pins σ H s → Vals vs us → wpAny (model X.prog X.w) X.A (assignInOrder ((assignEach ts X.env).map (·.2)) us) (fun _ s' => ∃ σ' H', Inv X pins σ' H' s' ∧ Q σ' H') X.xe s
section
variable {X : Cx} {tg : Expr} {ts : List Expr} {σ : L2.St} {H : Hp} {pos : Pos}
theorem pg_wp : PG X tg (wpG X tg) := ⟨fun pins s _ _ v u _ I r h => h pins s u I r⟩
theorem pgs_wp : PGs X ts (wpGs X ts) := ⟨fun pins s _ _ v u _ I r h => h pins s u I r⟩
theorem wpG_of {t : TG} (h : PG X tg t) {v : V} {Q : L2.St → Hp → Prop} (q : t v σ H Q) : wpG X tg v σ H Q := fun pins s u I r => h.run pins s σ H v u Q I r q
theorem wpGs_of {t : TGs} (h : PGs X ts t) {vs : List V} {Q : L2.St → Hp → Prop} (q : t vs σ H Q) : wpGs X ts vs σ H Q := fun pins s u I r => h.run pins s σ H vs u Q I r q
theorem wpG.mono {v : V} {Q Q' : L2.St → Hp → Prop} (h : wpG X tg v σ H Q) (q : ∀ σ H, Q σ H → Q' σ H) : wpG X tg v σ H Q' := fun pins s u I r => thn (h pins s u I r) fun _ _ ⟨σ', H', a, b⟩ => ⟨σ', H', a, q _ _ b⟩
theorem wpGs.mono {v : List V} {Q Q' : L2.St → Hp → Prop} (h : wpGs X ts v σ H Q) (q : ∀ σ H, Q σ H → Q' σ H) : wpGs X ts v σ H Q' := fun pins s u I r => thn (h pins s u I r) fun _ _ ⟨σ', H', a, b⟩ => ⟨σ', H', a, q _ _ b⟩
end
def GD (X : Cx) (Γ : Sl) (M : Mem) (tg : Expr) (d : D) (Θ : Sl → Mem → Prop) : Prop := ∀ P σ H v, SOk X.K Γ P σ → MOk X.K M P H → IsD X.K P v d → wpG X tg v σ H (FinS X.K P Θ)
def GDs (X : Cx) (Γ : Sl) (M : Mem) (ts : List Expr) (ds : List D) (Θ : Sl → Mem → Prop) : Prop := ∀ P σ H vs, SOk X.K Γ P σ → MOk X.K M P H → IsDs X.K P vs ds → wpGs X ts vs σ H (FinS X.K P Θ)
section
variable {X : Cx} {Γ : Sl} {M : Mem} {tg e o : Expr} {ts : List Expr} {Θ : Sl → Mem → Prop} {pos pos' : Pos} {Ψ : Po} {d : D} {ds : List D} {f : Str}
theorem gd_name (i : Nat) {x : Str} (hN : X.N.Nodup) (h : Θ (Γ.set i (some d)) M) (hi : X.N[i]? = some x := by rfl) (hx : Loc X.env.scope x := by first | exact Or.inl rfl | exact Or.inr rfl) (hf : X.fn x = true ∨ X.env.scope.names.lookup x = some .local := by first | exact .inl rfl | exact .inr rfl) : GD X Γ M (.Name x pos) d Θ := fun P σ H v s m i1 =>
  wpG_of (pg_name hN hi hx hf) ⟨_, M, P, h, Same.refl P, s.set i1, m⟩
theorem gds_nil (h : Θ Γ M) : GDs X Γ M [] [] Θ := fun P σ H v s m i1 => wpGs_of pgs_nil ⟨i1.unnil, Γ, M, P, h, Same.refl P, s, m⟩
theorem gds_cons (h : GD X Γ M e d fun Γ' M' => GDs X Γ' M' ts ds Θ) (hs : (assignEach (e :: ts) X.env).map (·.2) = assign e X.env :: (assignEach ts X.env).map (·.2) := by rfl) : GDs X Γ M (e :: ts) (d :: ds) Θ := fun P σ H vs s m i1 => by
  obtain ⟨x, r, rfl, hx, hr⟩ := i1.uncons
  exact wpGs_of (pgs_cons pg_wp pgs_wp hs) ⟨x, r, rfl, (h P σ H x s m hx).mono fun σ' H' ⟨Γ', M', P', q, e1, s1, m1⟩ => (q P' σ' H' r s1 m1 (hr.mono e1)).mono fun _ _ z => z.up e1⟩
theorem gd_tup {n : Nat} {k : Nat} (hc : X.calm = true) (h : GDs X Γ M ts ds Θ) (hl : ds.length = n) (hn : (assignEach ts X.env).length = n := by rfl) (hst : (assignEach ts X.env).findIdx? (·.1) = none := by rfl) : GD X Γ M (.Tuple ts k pos) (.tup ds) Θ := fun P σ H v s m i1 => by
  cases i1 with
  | tup hs hl' hi => exact wpG_of (pg_tup hc pgs_wp hn hst) ⟨_, _, rfl, Same.tupS m.ex hs, by rw [hl', hl], h P σ H _ s m ⟨hl', hi⟩⟩
/-- a target that is an attribute -/
theorem gd_fld (h : WE X Γ M o fun d2 M2 => ∃ (j : Nat) (l C : Addr) (fs : List (Str × D)), d2 = .adr l ∧ M2[j]? = some (l, .ins C fs) ∧ Cls X.K C ∧ NoAttr X.K C f ∧ fs.length < 1000 ∧ Θ Γ (M2.set j (l, .ins C (putD f d fs))))
    (ha : ∀ u, assign (.Attribute o f pos) X.env u = (do
      let ov ← holding [u] (eval o X.env)
      standAt pos
      holding [u, ov] (setAttr ov f u)
      release [u, ov] []) := by intro _; rfl) : GD X Γ M (.Attribute o f pos) d Θ := fun P σ H v s m i1 pins sh u I r => by
  rw [ha]
  refine wpAny_bind (wpAny_holding (thn (h P σ H s m pins sh I) fun ov s1 ⟨x, H1, I1, r1, d2, M2, P2, ⟨j, l, C, fs, ed, hj, c, n, hl, q2⟩, e2, m2, i2⟩ => ?_))
  subst ed
  cases i2
  obtain rfl : ov = Value.ref l := r1
  obtain ⟨_, dx, xs, h1, h2⟩ := m2.get hj
  refine wpAny_bind (wpAny_standAt (wpAny_bind (wpAny_holding (setattr_ok I1 h1 c n (by rw [h2.length]; exact hl) r fun s3 I3 => wpAny_release ?_))))
  exact ⟨σ, _, I3, Γ, _, P2, q2, e2, s.mono e2, m2.put hj ⟨dx, _, upd_same, h2.put (i1.mono e2)⟩⟩
theorem ws_asg {sts : List Stmt} (h : WE X Γ M e fun d M1 => GD X Γ M1 tg d fun Γ' M' => WS X Γ' M' sts Ψ) (hs : swapsWithSole [tg] e pos.line X.env = pure false := by rfl) (hw : swappedStores [tg] e X.env = pure none := by rfl)
    (h1 : (assignEach [tg] X.env).map (·.2) = [assign tg X.env] := by rfl) : WS X Γ M (.Assign [tg] e pos :: sts) Ψ := ws_cons fun P σ H s m =>
  wpS_of (ps_asg pe_wp pg_wp hs hw h1) ((h P σ H s m).mono fun v H1 ⟨d, M1, P1, q, e1, m1, i1⟩ => (q P1 σ H1 v (s.mono e1) m1 i1).mono fun _ _ z => z.up e1)
/-- a, b = x, y with plain local names -/
theorem ws_par (i j : Nat) {x y : Str} {a b : Expr} {sts : List Stmt} {px py pt : Pos} {kt k2 pt2} (hN : X.N.Nodup) (h : WA X Γ M [a, b] fun ds M1 => ∃ d1 d2, ds = [d1, d2] ∧ WS X ((Γ.set i (some d1)).set j (some d2)) M1 sts Ψ)
    (hij : i ≠ j := by decide) (hc : X.calm = true := by rfl) (hi : X.N[i]? = some x := by rfl) (hj : X.N[j]? = some y := by rfl)
    (hx : X.env.scope.names.lookup x = some .local := by rfl) (hy : X.env.scope.names.lookup y = some .local := by rfl)
    (hw : swappedStores [.Tuple [.Name x px, .Name y py] kt pt] (.Tuple [a, b] k2 pt2) X.env = pure (some [x, y]) := by rfl)
    (hs : swapsWithSole [.Tuple [.Name x px, .Name y py] kt pt] (.Tuple [a, b] k2 pt2) pos.line X.env = pure false := by rfl) : WS X Γ M (.Assign [.Tuple [.Name x px, .Name y py] kt pt] (.Tuple [a, b] k2 pt2) pos :: sts) Ψ := ws_cons fun P σ H s m =>
  wpS_of (ps_par hc hN hi hj hij hx hy pa_wp hw hs) ((h P σ H s m).mono fun vs H1 ⟨ds, M1, P1, ⟨d1, d2, ed, q⟩, e1, m1, i1⟩ => by
    subst ed
    obtain ⟨v, r, rfl, hv, hr⟩ := i1.uncons
    obtain ⟨u, r2, rfl, hu, hr2⟩ := hr.uncons
    obtain rfl := hr2.unnil
    exact ⟨v, u, rfl, _, M1, P1, q, e1, ((s.mono e1).set hv).set hu, m1⟩)
theorem ws_par3 (i j l : Nat) {x y z : Str} {a b c : Expr} {sts : List Stmt} {px py pz pt : Pos} {kt k2 pt2} (hN : X.N.Nodup) (h : WA X Γ M [a, b, c] fun ds M1 => ∃ d1 d2 d3, ds = [d1, d2, d3] ∧ WS X (((Γ.set i (some d1)).set j (some d2)).set l (some d3)) M1 sts Ψ)
    (hij : i ≠ j := by decide) (hil : i ≠ l := by decide) (hjl : j ≠ l := by decide) (hc : X.calm = true := by rfl) (hi : X.N[i]? = some x := by rfl) (hj : X.N[j]? = some y := by rfl) (hl : X.N[l]? = some z := by rfl)
    (hx : X.env.scope.names.lookup x = some .local := by rfl) (hy : X.env.scope.names.lookup y = some .local := by rfl) (hz : X.env.scope.names.lookup z = some .local := by rfl)
    (hq : PS X (.Assign [.Tuple [.Name x px, .Name y py, .Name z pz] kt pt] (.Tuple [a, b, c] k2 pt2) pos) (tPar3 i j l (wpA X [a, b, c])) := by exact ps_par3 (by rfl) (by assumption) rfl rfl rfl (by decide) (by decide) (by decide) rfl rfl rfl pa_wp (by rfl) (by rfl)) : WS X Γ M (.Assign [.Tuple [.Name x px, .Name y py, .Name z pz] kt pt] (.Tuple [a, b, c] k2 pt2) pos :: sts) Ψ := ws_cons fun P σ H s m =>
  wpS_of hq ((h P σ H s m).mono fun vs H1 ⟨ds, M1, P1, ⟨d1, d2, d3, ed, q⟩, e1, m1, i1⟩ => by
    subst ed
    obtain ⟨v, r, rfl, hv, hr⟩ := i1.uncons
    obtain ⟨u, r2, rfl, hu, hr2⟩ := hr.uncons
    obtain ⟨u3, r3, rfl, hu3, hr3⟩ := hr2.uncons
    obtain rfl := hr3.unnil
    exact ⟨v, u, u3, rfl, _, M1, P1, q, e1, (((s.mono e1).set hv).set hu).set hu3, m1⟩)
end
/-! ### loops -/
section
variable {X : Cx} {Γ : Sl} {M : Mem} {tg it a b : Expr} {body sts : List Stmt} {Ψ : Po} {pos p pos2 : Pos}
theorem w1_forR1 (hp : PassesOwn (model X.prog X.w) X.A X.env X.xe) (hc : X.calm = true) (hg : Gl X "range") (hm : X.mg "range" = none)
    (h : WA X Γ M [a] fun ds M1 => ∃ (Iv : Nat → Sl → Mem → Prop) (n : Int), ds = [.int n] ∧ -(2 ^ 62) ≤ n ∧ n < 2 ^ 62 ∧ Iv 0 Γ M1 ∧ (∀ (i : Nat) Γ' M', (i : Int) < n → Iv i Γ' M' → GD X Γ' M' tg (.int (i : Int)) fun Γ2 M2 => WS X Γ2 M2 body { Ψ with nx := Iv (i + 1), ct := Iv (i + 1), bk := Ψ.nx }) ∧ ∀ Γ' M', Iv n.toNat Γ' M' → Ψ.nx Γ' M')
    (hs : starEach [a] X.env = [(false, eval a X.env)] := by rfl) (hf : ∀ x, foldedSetIterable (.Call (.Name "range" p) [a] [] pos2) X.env x = pure x := by intro _; rfl) : W1 X Γ M (.For tg (.Call (.Name "range" p) [a] [] pos2) body [] pos) Ψ := fun P σ H s m =>
  wpS_of (ps_for hp hc (pi_range1 hg hm pa_wp hs) pg_wp pss_wp hf) ((h P σ H s m).mono fun vs H1 ⟨ds, M1, P1, ⟨Iv, n, ed, h1, h2, hI, hstep, hdone⟩, e1, m1, i1⟩ => by
    subst ed
    obtain ⟨v, r, rfl, hv, hr⟩ := i1.uncons
    obtain rfl := hr.unnil
    cases hv
    refine ⟨n, rfl, h1, h2, for_range (lo := 0) (n := n.toNat) (fun i => FinS X.K P (Iv i)) ⟨Γ, M1, P1, hI, e1, s.mono e1, m1⟩ ?_ ?_⟩
    · rintro i σ' H' hi ⟨Γ', M', P', hI', e', s', m'⟩
      refine (hstep i Γ' M' (by omega) hI' P' σ' H' (.int (0 + (i : Int))) s' m' (by rw [Int.zero_add]; exact .int)).mono fun σ2 H2 ⟨Γ2, M2, P2, q, e2, s2, m2⟩ => (q P2 σ2 H2 s2 m2).mono ?_
      exact ⟨fun _ _ z => z.up (e'.trans e2), fun _ _ z => z.up (e'.trans e2), fun _ _ z => z.up (e'.trans e2), fun _ _ z => z.up (e'.trans e2)⟩
    · rintro σ' H' ⟨Γ', M', P', hI', e', s', m'⟩
      exact ⟨Γ', M', P', hdone Γ' M' hI', e', s', m'⟩)
theorem w1_forR2 (hp : PassesOwn (model X.prog X.w) X.A X.env X.xe) (hc : X.calm = true) (hg : Gl X "range") (hm : X.mg "range" = none)
    (h : WA X Γ M [a, b] fun ds M1 => ∃ (Iv : Nat → Sl → Mem → Prop) (lo n : Int), ds = [.int lo, .int n] ∧ (-(2 ^ 62) ≤ lo ∧ lo < 2 ^ 62 ∧ -(2 ^ 62) ≤ n ∧ n < 2 ^ 62) ∧ Iv 0 Γ M1 ∧ (∀ (i : Nat) Γ' M', lo + (i : Int) < n → Iv i Γ' M' → GD X Γ' M' tg (.int (lo + (i : Int))) fun Γ2 M2 => WS X Γ2 M2 body { Ψ with nx := Iv (i + 1), ct := Iv (i + 1), bk := Ψ.nx }) ∧ ∀ Γ' M', Iv (n - lo).toNat Γ' M' → Ψ.nx Γ' M')
    (hs : starEach [a, b] X.env = [(false, eval a X.env), (false, eval b X.env)] := by rfl) (hs2 : starEach [b] X.env = [(false, eval b X.env)] := by rfl) (hf : ∀ x, foldedSetIterable (.Call (.Name "range" p) [a, b] [] pos2) X.env x = pure x := by intro _; rfl) : W1 X Γ M (.For tg (.Call (.Name "range" p) [a, b] [] pos2) body [] pos) Ψ := fun P σ H s m =>
  wpS_of (ps_for hp hc (pi_range2 hg hm pa_wp hs hs2) pg_wp pss_wp hf) ((h P σ H s m).mono fun vs H1 ⟨ds, M1, P1, ⟨Iv, lo, n, ed, h1, hI, hstep, hdone⟩, e1, m1, i1⟩ => by
    subst ed
    obtain ⟨v, r, rfl, hv, hr⟩ := i1.uncons
    obtain ⟨v2, r2, rfl, hv2, hr2⟩ := hr.uncons
    obtain rfl := hr2.unnil
    cases hv
    cases hv2
    refine ⟨lo, n, rfl, h1, for_range (lo := lo) (n := (n - lo).toNat) (fun i => FinS X.K P (Iv i)) ⟨Γ, M1, P1, hI, e1, s.mono e1, m1⟩ ?_ ?_⟩
    · rintro i σ' H' hi ⟨Γ', M', P', hI', e', s', m'⟩
      refine (hstep i Γ' M' (by omega) hI' P' σ' H' (.int (lo + (i : Int))) s' m' .int).mono fun σ2 H2 ⟨Γ2, M2, P2, q, e2, s2, m2⟩ => (q P2 σ2 H2 s2 m2).mono ?_
      exact ⟨fun _ _ z => z.up (e'.trans e2), fun _ _ z => z.up (e'.trans e2), fun _ _ z => z.up (e'.trans e2), fun _ _ z => z.up (e'.trans e2)⟩
    · rintro σ' H' ⟨Γ', M', P', hI', e', s', m'⟩
      exact ⟨Γ', M', P', hdone Γ' M' hI', e', s', m'⟩)
/-- over a list, a tuple -/
theorem w1_forL (hp : PassesOwn (model X.prog X.w) X.A X.env X.xe) (hc : X.calm = true)
    (h : WE X Γ M it fun d M1 => ∃ (Iv : Nat → Sl → Mem → Prop) (xs : List D), d = .lst xs ∧ Iv 0 Γ M1 ∧ (∀ (i : Nat) (y : D) Γ' M', xs[i]? = some y → Iv i Γ' M' → GD X Γ' M' tg y fun Γ2 M2 => WS X Γ2 M2 body { Ψ with nx := Iv (i + 1), ct := Iv (i + 1), bk := Ψ.nx }) ∧ ∀ Γ' M', Iv xs.length Γ' M' → Ψ.nx Γ' M')
    (hf : ∀ x, foldedSetIterable it X.env x = pure x := by intro _; rfl) : W1 X Γ M (.For tg it body [] pos) Ψ := fun P σ H s m =>
  wpS_of (ps_for hp hc (pi_list pe_wp) pg_wp pss_wp hf) ((h P σ H s m).mono fun v H1 ⟨d, M1, P1, ⟨Iv, xs, ed, hI, hstep, hdone⟩, e1, m1, i1⟩ => by
    subst ed
    cases i1 with
    | @lst l vs _ hq hl hi =>
      refine ⟨l, rfl, ⟨vs, m1.ex.seq hq⟩, for_list (K := X.K) (a := l) (xs := vs) (fun i => FinS X.K P1 (Iv i)) ⟨Γ, M1, P1, hI, Same.refl P1, s.mono e1, m1⟩ (fun i σ' H' _ ⟨Γ', M', P', _, e', _, m'⟩ => m'.ex.seq (e'.seq hq)) ?_ ?_⟩
      · rintro i x σ' H' hx ⟨Γ', M', P', hI', e', s', m'⟩
        obtain ⟨y, hy, iy⟩ := IsDs.getV (K := X.K) (P := P1) ⟨hl, hi⟩ hx
        refine (hstep i y Γ' M' hy hI' P' σ' H' x s' m' (iy.mono e')).mono fun σ2 H2 ⟨Γ2, M2, P2, q, e2, s2, m2⟩ => (q P2 σ2 H2 s2 m2).mono ?_
        exact ⟨fun _ _ z => z.up (e'.trans e2), fun _ _ z => z.up (e1.trans (e'.trans e2)), fun _ _ z => z.up (e1.trans (e'.trans e2)), fun _ _ z => z.up (e'.trans e2)⟩
      · rintro σ' H' ⟨Γ', M', P', hI', e', s', m'⟩
        exact ⟨Γ', M', P', hdone Γ' M' (by rw [← hl]; exact hI'), e1.trans e', s', m'⟩)
theorem w1_forT (hp : PassesOwn (model X.prog X.w) X.A X.env X.xe) (hc : X.calm = true)
    (h : WE X Γ M it fun d M1 => ∃ (Iv : Nat → Sl → Mem → Prop) (xs : List D), d = .tup xs ∧ Iv 0 Γ M1 ∧ (∀ (i : Nat) (y : D) Γ' M', xs[i]? = some y → Iv i Γ' M' → GD X Γ' M' tg y fun Γ2 M2 => WS X Γ2 M2 body { Ψ with nx := Iv (i + 1), ct := Iv (i + 1), bk := Ψ.nx }) ∧ ∀ Γ' M', Iv xs.length Γ' M' → Ψ.nx Γ' M')
    (hf : ∀ x, foldedSetIterable it X.env x = pure x := by intro _; rfl) : W1 X Γ M (.For tg it body [] pos) Ψ := fun P σ H s m =>
  wpS_of (ps_for hp hc (pi_tup pe_wp) pg_wp pss_wp hf) ((h P σ H s m).mono fun v H1 ⟨d, M1, P1, ⟨Iv, xs, ed, hI, hstep, hdone⟩, e1, m1, i1⟩ => by
    subst ed
    cases i1 with
    | @tup l vs _ hq hl hi =>
      refine ⟨l, rfl, ⟨vs, Same.tupS m1.ex hq⟩, for_tup (K := X.K) (a := l) (xs := vs) (fun i => FinS X.K P1 (Iv i)) ⟨Γ, M1, P1, hI, Same.refl P1, s.mono e1, m1⟩ (fun i σ' H' _ ⟨Γ', M', P', _, e', _, m'⟩ => Same.tupS m'.ex (Same.tupS e' hq)) ?_ ?_⟩
      · rintro i x σ' H' hx ⟨Γ', M', P', hI', e', s', m'⟩
        obtain ⟨y, hy, iy⟩ := IsDs.getV (K := X.K) (P := P1) ⟨hl, hi⟩ hx
        refine (hstep i y Γ' M' hy hI' P' σ' H' x s' m' (iy.mono e')).mono fun σ2 H2 ⟨Γ2, M2, P2, q, e2, s2, m2⟩ => (q P2 σ2 H2 s2 m2).mono ?_
        exact ⟨fun _ _ z => z.up (e'.trans e2), fun _ _ z => z.up (e1.trans (e'.trans e2)), fun _ _ z => z.up (e1.trans (e'.trans e2)), fun _ _ z => z.up (e'.trans e2)⟩
      · rintro σ' H' ⟨Γ', M', P', hI', e', s', m'⟩
        exact ⟨Γ', M', P', hdone Γ' M' (by rw [← hl]; exact hI'), e1.trans e', s', m'⟩)
/-- while, by a word and a measure -/
theorem w1_while {c : Expr} (W : Nat → Sl → Mem → Prop) (hp : PassesOwn (model X.prog X.w) X.A X.env X.xe) (n0 : Nat) (h0 : W n0 Γ M)
    (hs : ∀ n Γ' M', W n Γ' M' → WT X Γ' M' c fun k M1 => (k = true → WS X Γ' M1 body { Ψ with nx := fun Γ2 M2 => ∃ n', n' < n ∧ W n' Γ2 M2, ct := fun Γ2 M2 => ∃ n', n' < n ∧ W n' Γ2 M2, bk := Ψ.nx }) ∧ (k = false → Ψ.nx Γ' M1)) : W1 X Γ M (.While c body [] pos) Ψ := fun P σ H s m =>
  wpS_of (ps_while hp pt_wp pss_wp) (show tWhile (wpB X c) (wpSs X body) (Ψ.ends X.K P) σ H from ⟨fun n => FinS X.K P (W n), ⟨n0, Γ, M, P, h0, Same.refl P, s, m⟩, fun n σ' H' ⟨Γ', M', P', hW, e', s', m'⟩ => (hs n Γ' M' hW P' σ' H' s' m').mono fun k H1 ⟨M1, P1, q, e1, m1⟩ => by
    cases k with
    | true =>
      refine iteT ⟨FinS X.K P fun Γ2 M2 => ∃ n', n' < n ∧ W n' Γ2 M2, fun σ2 H2 ⟨Γ2, M2, P2, ⟨n', hn, w2⟩, e2, s2, m2⟩ => ⟨n', hn, Γ2, M2, P2, w2, e2, s2, m2⟩, ?_⟩
      refine (q.1 rfl P1 σ' H1 (s'.mono e1) m1).mono ?_
      exact ⟨fun _ _ z => z.up (e'.trans e1), fun _ _ z => z.up (e'.trans e1), fun _ _ z => z.up (e'.trans e1), fun _ _ z => z.up (e'.trans e1)⟩
    | false => exact iteF ⟨Γ', M1, P1, q.2 rfl, e'.trans e1, s'.mono e1, m1⟩⟩)
end
end Dt

set_option Elab.async false
set_option linter.all false
set_option maxRecDepth 100000
set_option maxHeartbeats 2000000
/-! Dt, part 5: built-in functions, lists that grow, comprehensions, == of data. -/
namespace Dt
open PySem PySem.Spec PyProof.Rows L2
section
variable {X : Cx} {Γ : Sl} {M : Mem} {Φ : VP} {Ψ : Po} {e o a b : Expr} {es : List Expr} {pos p apos : Pos}
/-! ### calls of built-ins -/
theorem cd_of {f : Value} {xs : List D} {r : List V → Hp → VK → Prop} (hr : CallR X f r) (h : ∀ P H vs, MOk X.K M P H → IsDs X.K P vs xs → r vs H (Fin X.K P Φ)) : CaD X f xs M Φ := fun P H vs m i => caT_of hr (h P H vs m i)
theorem IsDs.un1 {K : PySem.W.Frag} {P : Hp} {vs : List V} {d : D} (h : IsDs K P vs [d]) : ∃ v, vs = [v] ∧ IsD K P v d := by
  obtain ⟨v, r, rfl, hv, hr⟩ := h.uncons
  obtain rfl := hr.unnil
  exact ⟨v, rfl, hv⟩
theorem IsDs.un2 {K : PySem.W.Frag} {P : Hp} {vs : List V} {d d2 : D} (h : IsDs K P vs [d, d2]) : ∃ v v2, vs = [v, v2] ∧ IsD K P v d ∧ IsD K P v2 d2 := by
  obtain ⟨v, r, rfl, hv, hr⟩ := h.uncons
  obtain ⟨v2, rfl, hv2⟩ := hr.un1
  exact ⟨v, v2, rfl, hv, hv2⟩
theorem cd_abs {i : Int} (q : Φ (.int (if i < 0 then -i else i)) M) : CaD X (.builtin "abs") [.int i] M Φ := cd_of call_abs fun P H vs m h => by
  obtain ⟨v, rfl, hv⟩ := h.un1
  cases hv
  exact ⟨i, rfl, .one q m .int⟩
theorem cd_int {i : Int} (q : Φ (.int i) M) : CaD X (.type "int") [.int i] M Φ := cd_of call_int1 fun P H vs m h => by
  obtain ⟨v, rfl, hv⟩ := h.un1
  cases hv
  exact .inl ⟨i, rfl, .one q m .int⟩
theorem cd_max {i j : Int} (hc : X.calm = true) (q : Φ (.int (if j > i then j else i)) M) : CaD X (.builtin "max") [.int i, .int j] M Φ := cd_of (call_max2 hc) fun P H vs m h => by
  obtain ⟨v, v2, rfl, hv, hv2⟩ := h.un2
  cases hv
  cases hv2
  exact ⟨i, j, rfl, .one q m .int⟩
theorem cd_min {i j : Int} (hc : X.calm = true) (q : Φ (.int (if j < i then j else i)) M) : CaD X (.builtin "min") [.int i, .int j] M Φ := cd_of (call_min2 hc) fun P H vs m h => by
  obtain ⟨v, v2, rfl, hv, hv2⟩ := h.un2
  cases hv
  cases hv2
  exact ⟨i, j, rfl, .one q m .int⟩
theorem cd_bool {b : Bool} (q : Φ (.bl b) M) : CaD X (.type "bool") [.bl b] M Φ := cd_of call_bool1 fun P H vs m h => by
  obtain ⟨v, rfl, hv⟩ := h.un1
  cases hv
  exact .inr ⟨b, rfl, .one q m .bl⟩
theorem cd_len_lst {ds : List D} (q : Φ (.int ds.length) M) : CaD X (.builtin "len") [.lst ds] M Φ := cd_of call_len fun P H vs m h => by
  obtain ⟨v, rfl, hv⟩ := h.un1
  cases hv with
  | lst hs hl hi => exact ⟨_, ds.length, rfl, .inl ⟨_, m.ex.seq hs, hl.symm⟩, .one q m .int⟩
theorem cd_len_tup {ds : List D} (q : Φ (.int ds.length) M) : CaD X (.builtin "len") [.tup ds] M Φ := cd_of call_len fun P H vs m h => by
  obtain ⟨v, rfl, hv⟩ := h.un1
  cases hv with
  | tup hs hl hi => exact ⟨_, ds.length, rfl, .inr ⟨_, Same.tupS m.ex hs, hl.symm⟩, .one q m .int⟩
theorem cd_len_own {l : Addr} {k : Nat} {ds : List D} (hk : M[k]? = some (l, .lst ds)) (q : Φ (.int ds.length) M) : CaD X (.builtin "len") [.adr l] M Φ := cd_of call_len fun P H vs m h => by
  obtain ⟨v, rfl, hv⟩ := h.un1
  cases hv
  obtain ⟨_, xs, h1, h2⟩ := m.get hk
  exact ⟨_, ds.length, rfl, .inl ⟨_, SqL.of h1, h2.1.symm⟩, .one q m .int⟩
theorem cd_len_str {x : Str} (hl : x.length ≤ sizeLine) (q : Φ (.int x.length) M) : CaD X (.builtin "len") [.str x] M Φ := cd_of call_len_str fun P H vs m h => by
  obtain ⟨v, rfl, hv⟩ := h.un1
  cases hv
  exact ⟨x, rfl, hl, .one q m .int⟩
theorem isDs_bls {K : PySem.W.Frag} {P : Hp} : ∀ {bs : List Bool} {vs : List V}, IsDs K P vs (bs.map D.bl) → vs = bs.map V.bl
  | [], vs, h => h.unnil
  | b :: bs, vs, h => by
    obtain ⟨v, r, rfl, hv, hr⟩ := IsDs.uncons h
    cases hv
    rw [isDs_bls hr]
    rfl
theorem isDs_ints {K : PySem.W.Frag} {P : Hp} : ∀ {bs : List Int} {vs : List V}, IsDs K P vs (bs.map D.int) → vs = bs.map V.int
  | [], vs, h => h.unnil
  | b :: bs, vs, h => by
    obtain ⟨v, r, rfl, hv, hr⟩ := IsDs.uncons h
    cases hv
    rw [isDs_ints hr]
    rfl
theorem cd_all {bs : List Bool} (hc : X.calm = true) (q : Φ (.bl (bs.all id)) M) : CaD X (.builtin "all") [.lst (bs.map D.bl)] M Φ := cd_of (cr_all hc) fun P H vs m h => by
  obtain ⟨v, rfl, hv⟩ := h.un1
  cases hv with
  | lst hs hl hi =>
    rw [isDs_bls ⟨hl, hi⟩] at hs
    exact ⟨_, bs, rfl, m.ex.seq hs, .one q m .bl⟩
theorem cd_any {bs : List Bool} (hc : X.calm = true) (q : Φ (.bl (bs.any id)) M) : CaD X (.builtin "any") [.lst (bs.map D.bl)] M Φ := cd_of (cr_any hc) fun P H vs m h => by
  obtain ⟨v, rfl, hv⟩ := h.un1
  cases hv with
  | lst hs hl hi =>
    rw [isDs_bls ⟨hl, hi⟩] at hs
    exact ⟨_, bs, rfl, m.ex.seq hs, .one q m .bl⟩
theorem cd_sum {ns : List Int} (hc : X.calm = true) (q : Φ (.int ns.sum) M) : CaD X (.builtin "sum") [.lst (ns.map D.int)] M Φ := cd_of (cr_sum hc) fun P H vs m h => by
  obtain ⟨v, rfl, hv⟩ := h.un1
  cases hv with
  | lst hs hl hi =>
    rw [isDs_ints ⟨hl, hi⟩] at hs
    exact ⟨_, ns, rfl, m.ex.seq hs, .one q m .int⟩
theorem cd_sorted {ns : List Int} (q : ∀ ns' : List Int, ns'.Perm ns → ns'.Pairwise (· ≤ ·) → Φ (.lst (ns'.map D.int)) M) : CaD X (.builtin "sorted") [.lst (ns.map D.int)] M Φ := cd_of cr_sortedI fun P H vs m h => by
  obtain ⟨v, rfl, hv⟩ := h.un1
  cases hv with
  | lst hs hl hi =>
    rw [isDs_ints ⟨hl, hi⟩] at hs
    refine ⟨_, ns, rfl, m.ex.seq hs, fun ns' p hp hs' hn => ?_⟩
    obtain ⟨m2, e2⟩ := m.push (o := .lst (ns'.map V.int)) hn
    exact ⟨_, M, _, q ns' hp hs', e2, m2, .lst (SqL.of upd_same) (IsDs.ints (K := X.K) (P := P) ns').1 (IsDs.ints ns').2⟩
/-- list(xs): a list of one's own -/
theorem cd_list {ds : List D} {d : D} (hd : d = .lst ds ∨ d = .tup ds ∨ ∃ (k : Nat) (l : Addr), d = .adr l ∧ M[k]? = some (l, .lst ds)) (q : ∀ l, Φ (.adr l) ((l, .lst ds) :: M)) : CaD X (.type "list") [d] M Φ := cd_of call_list_of fun P H vs m h => by
  obtain ⟨v, rfl, hv⟩ := h.un1
  rcases hd with rfl | rfl | ⟨k, l, rfl, hk⟩
  · cases hv with
    | lst hs hl hi => exact ⟨_, _, rfl, .inl (m.ex.seq hs), fun l hn => ⟨_, _, P, q l, Same.refl P, m.own hn ⟨_, upd_same, hl, hi⟩, .adr⟩⟩
  · cases hv with
    | tup hs hl hi => exact ⟨_, _, rfl, .inr (Same.tupS m.ex hs), fun l hn => ⟨_, _, P, q l, Same.refl P, m.own hn ⟨_, upd_same, hl, hi⟩, .adr⟩⟩
  · cases hv
    obtain ⟨_, xs, h1, h2⟩ := m.get hk
    exact ⟨_, _, rfl, .inl (SqL.of h1), fun l' hn => ⟨_, _, P, q l', Same.refl P, m.own hn ⟨_, upd_same, h2⟩, .adr⟩⟩
/-- tuple(xs) -/
theorem cd_tuple {ds : List D} {d : D} (hd : d = .lst ds ∨ d = .tup ds ∨ ∃ (k : Nat) (l : Addr), d = .adr l ∧ M[k]? = some (l, .lst ds)) (q : Φ (.tup ds) M) : CaD X (.type "tuple") [d] M Φ := cd_of call_tuple_of fun P H vs m h => by
  obtain ⟨v, rfl, hv⟩ := h.un1
  rcases hd with rfl | rfl | ⟨k, l, rfl, hk⟩
  · cases hv with
    | lst hs hl hi =>
      refine ⟨_, _, rfl, .inl ⟨m.ex.seq hs, fun l hn => ?_⟩⟩
      obtain ⟨m2, e2⟩ := m.push (o := .tup _) hn
      exact ⟨_, M, _, q, e2, m2, .tup (SqT.of upd_same) hl fun i x d a b => (hi i x d a b).mono e2⟩
  · cases hv with
    | tup hs hl hi => exact ⟨_, _, rfl, .inr ⟨Same.tupS m.ex hs, .one q m (.tup hs hl hi)⟩⟩
  · cases hv
    obtain ⟨_, xs, h1, h2⟩ := m.get hk
    refine ⟨_, _, rfl, .inl ⟨SqL.of h1, fun l' hn => ?_⟩⟩
    obtain ⟨m2, e2⟩ := m.push (o := .tup xs) hn
    exact ⟨_, M, _, q, e2, m2, .tup (SqT.of upd_same) h2.1 fun i x d a b => (h2.2 i x d a b).mono e2⟩
/-! ### isinstance -/
/-- what the type of a piece of data is -/
def tyD : D → Option String
  | .non => some "NoneType"
  | .bl _ => some "bool"
  | .int _ => some "int"
  | .str _ => some "str"
  | .tup _ => some "tuple"
  | .lst _ => some "list"
  | _ => none
theorem tyX_of {K : PySem.W.Frag} {P H : Hp} {v : V} {d : D} {t : String} (m : MOk K M P H) (i : IsD K P v d) (h : tyD d = some t) : TyX K H v (.type t) := by
  cases i with
  | non => cases h; exact .base .non
  | bl => cases h; exact .base (.bl _)
  | int => cases h; exact .base (.int _)
  | str => cases h; exact .base (.str _)
  | ty => cases h
  | tup hs hl hi =>
    cases h
    rcases hs with (h | ⟨ob, h⟩) | ⟨ob, its, n, h, hc, _⟩
    · exact .base (.tup (m.ex _ _ h))
    · exact .fTuple (m.ex _ _ h)
    · exact .kTuple h hc
  | lst hs hl hi =>
    cases h
    rcases hs with (h | ⟨ob, h⟩) | ⟨ob, its, n, h, hc, _⟩
    · exact .base (.lst (m.ex _ _ h))
    · exact .base (.frz (m.ex _ _ h))
    · exact .kList h hc
  | obj h hl hi => cases h
  | adr => cases h
theorem cd_isi {d : D} {t n : String} {k : Bool} (ht : tyD d = some t) (hk : kitB t n = some k) (q : Φ (.bl k) M) : CaD X (.builtin "isinstance") [d, .ty n] M Φ := cd_of call_isi fun P H vs m h => by
  obtain ⟨v, v2, rfl, hv, hv2⟩ := h.un2
  cases hv2
  exact ⟨v, .ty n, _, _, k, rfl, .ty n, tyX_of m hv ht, kit_ty hk, .one q m .bl⟩
/-! ### xs.append(e), xs.extend(ys) -/
theorem we_append (h : WE X Γ M o fun d M1 => ∃ (l : Addr) (k0 : Nat) (ds0 : List D), d = .adr l ∧ M1[k0]? = some (l, .lst ds0) ∧ WE X Γ M1 e fun y M2 => ∃ (k : Nat) (ds : List D), M2[k]? = some (l, .lst ds) ∧ ds.length < sizeLine ∧ Φ .non (M2.set k (l, .lst (ds ++ [y]))))
    (hq : PE X (.Call (.Attribute o "append" apos) [e] [] pos) (tBM X.K "list" rAppend (wpT X o) (wpA X [e])) := by exact pe_bm PySem.F.plainAttrs_list PySem.F.slot_list_append PySem.F.type_list_append mt_append pe_wp pa_wp)
    (hs : starEach [e] X.env = (false, eval e X.env) :: starEach [] X.env := by rfl) : WE X Γ M (.Call (.Attribute o "append" apos) [e] [] pos) Φ := fun P σ H s m =>
  wpT_of hq ((h P σ H s m).mono fun v H1 ⟨d, M1, P1, ⟨l, k0, ds0, ed, hk0, q⟩, e1, m1, i1⟩ => by
    subst ed
    cases i1
    have hA : WA X Γ M1 [e] fun ds' M2 => ∃ y, ds' = [y] ∧ ∃ (k : Nat) (ds : List D), M2[k]? = some (l, .lst ds) ∧ ds.length < sizeLine ∧ Φ .non (M2.set k (l, .lst (ds ++ [y]))) :=
      wa_cons (q.mono fun y M2 z => wa_nil ⟨y, rfl, z⟩) hs
    obtain ⟨_, xs0, h01, h02⟩ := m1.get hk0
    refine ⟨.inl ⟨rfl, xs0, SqL.of h01⟩, (hA P1 σ H1 (s.mono e1) m1).mono fun vs H2 ⟨ds', M2, P2, ⟨y, ey, k, ds, hk, hlen, q2⟩, e2, m2, i2⟩ => ?_⟩
    subst ey
    obtain ⟨u, rfl, hu⟩ := i2.un1
    obtain ⟨_, xs, h1, h2⟩ := m2.get hk
    exact ⟨l, xs, u, rfl, rfl, h1, by rw [h2.1]; exact hlen, .non, _, P2, q2, e1.trans e2, m2.put hk ⟨_, upd_same, h2.append (.cons hu .nil)⟩, .non⟩)
/-- the argument is a list of one's own, k2 its place -/
theorem we_extend (h : WE X Γ M o fun d M1 => ∃ (l : Addr) (k0 : Nat) (ds0 : List D), d = .adr l ∧ M1[k0]? = some (l, .lst ds0) ∧ WE X Γ M1 e fun y M2 => ∃ (k k2 : Nat) (l2 : Addr) (ds es' : List D), y = .adr l2 ∧ M2[k]? = some (l, .lst ds) ∧ M2[k2]? = some (l2, .lst es') ∧ ds.length + es'.length ≤ sizeLine ∧ Φ .non (M2.set k (l, .lst (ds ++ es'))))
    (hq : PE X (.Call (.Attribute o "extend" apos) [e] [] pos) (tBM X.K "list" rExtend (wpT X o) (wpA X [e])) := by exact pe_bm PySem.F.plainAttrs_list PySem.F.slot_list_extend PySem.F.type_list_extend mt_extend pe_wp pa_wp)
    (hs : starEach [e] X.env = (false, eval e X.env) :: starEach [] X.env := by rfl) : WE X Γ M (.Call (.Attribute o "extend" apos) [e] [] pos) Φ := fun P σ H s m =>
  wpT_of hq ((h P σ H s m).mono fun v H1 ⟨d, M1, P1, ⟨l, k0, ds0, ed, hk0, q⟩, e1, m1, i1⟩ => by
    subst ed
    cases i1
    have hA : WA X Γ M1 [e] fun ds' M2 => ∃ y, ds' = [y] ∧ ∃ (k k2 : Nat) (l2 : Addr) (ds es' : List D), y = .adr l2 ∧ M2[k]? = some (l, .lst ds) ∧ M2[k2]? = some (l2, .lst es') ∧ ds.length + es'.length ≤ sizeLine ∧ Φ .non (M2.set k (l, .lst (ds ++ es'))) :=
      wa_cons (q.mono fun y M2 z => wa_nil ⟨y, rfl, z⟩) hs
    obtain ⟨_, xs0, h01, h02⟩ := m1.get hk0
    refine ⟨.inl ⟨rfl, xs0, SqL.of h01⟩, (hA P1 σ H1 (s.mono e1) m1).mono fun vs H2 ⟨ds', M2, P2, ⟨y, ey, k, k2, l2, ds, es', ey2, hk, hk2, hlen, q2⟩, e2, m2, i2⟩ => ?_⟩
    subst ey ey2
    obtain ⟨u, rfl, hu⟩ := i2.un1
    cases hu
    obtain ⟨_, xs, h1, h2⟩ := m2.get hk
    obtain ⟨_, ys, h3, h4⟩ := m2.get hk2
    exact ⟨l, l2, xs, ys, rfl, rfl, h1, h3, by rw [h2.1, h4.1]; exact hlen, .non, _, P2, q2, e1.trans e2, m2.put hk ⟨_, upd_same, h2.append h4⟩, .non⟩)
/-- xs.pop() -/
theorem we_pop (h : WE X Γ M o fun d M1 => ∃ (l : Addr) (k : Nat) (ds : List D) (y : D), d = .adr l ∧ M1[k]? = some (l, .lst ds) ∧ ds[ds.length - 1]? = some y ∧ Φ y (M1.set k (l, .lst ds.dropLast)))
    (hq : PE X (.Call (.Attribute o "pop" apos) [] [] pos) (tBM0 X.K "list" rPop (wpT X o)) := by exact pe_bm0 PySem.F.plainAttrs_list PySem.F.slot_list_pop PySem.F.type_list_pop mt_pop pe_wp) : WE X Γ M (.Call (.Attribute o "pop" apos) [] [] pos) Φ := fun P σ H s m =>
  wpT_of hq ((h P σ H s m).mono fun v H1 ⟨d, M1, P1, ⟨l, k, ds, y, ed, hk, hy, q⟩, e1, m1, i1⟩ => by
    subst ed
    cases i1
    obtain ⟨_, xs, h1, h2⟩ := m1.get hk
    have hb : ds.length - 1 < ds.length := (List.getElem?_eq_some_iff.mp hy).1
    obtain ⟨u, hu, iu⟩ := h2.get hy
    refine ⟨.inl ⟨rfl, xs, SqL.of h1⟩, l, xs, u, rfl, rfl, h1, by rw [h2.1]; exact hu, y, _, P1, q, e1, m1.put hk ⟨_, upd_same, ?_⟩, iu⟩
    refine ⟨by rw [List.length_dropLast, List.length_dropLast, h2.1], fun i x d a b => ?_⟩
    rw [List.getElem?_dropLast] at a b
    split at a
    · split at b
      · exact h2.2 i x d a b
      · cases b
    · cases a)
end
/-! ### comprehensions -/
theorem wipe_get (σ : L2.St) (i : Nat) : ∀ vs : List Nat, (wipe σ vs)[i]? = if i ∈ vs ∧ i < σ.length then some none else σ[i]?
  | [] => by simp [wipe]
  | v :: vs => by
    have ih := wipe_get σ i vs
    have hl := wipe_length σ vs
    show ((wipe σ vs).set v none)[i]? = _
    by_cases hv : v = i
    · subst hv
      by_cases hb : v < σ.length
      · rw [List.getElem?_set_self (by rw [hl]; exact hb), if_pos ⟨List.mem_cons_self, hb⟩]
      · rw [if_neg (fun z => hb z.2), List.getElem?_eq_none (by rw [List.length_set, hl]; omega), List.getElem?_eq_none (by omega)]
    · rw [List.getElem?_set_ne hv, ih]
      have hm : (i ∈ v :: vs) ↔ i ∈ vs := by
        rw [List.mem_cons]
        exact ⟨fun z => z.elim (fun q => absurd q.symm hv) id, .inr⟩
      simp only [hm]
theorem wipe_set {σ : L2.St} {j : Nat} {x : Option V} {vs : List Nat} (h : j ∈ vs) : wipe (σ.set j x) vs = wipe σ vs := by
  refine List.ext_getElem? fun i => ?_
  rw [wipe_get, wipe_get, List.length_set]
  by_cases hi : i ∈ vs ∧ i < σ.length
  · rw [if_pos hi, if_pos hi]
  · rw [if_neg hi, if_neg hi]
    by_cases hj : j = i
    · subst hj
      rw [List.getElem?_eq_none (by rw [List.length_set]; exact Nat.le_of_not_lt fun z => hi ⟨h, z⟩), List.getElem?_eq_none (Nat.le_of_not_lt fun z => hi ⟨h, z⟩)]
    · rw [List.getElem?_set_ne hj]
theorem wipe_wipe (σ : L2.St) (vs : List Nat) : wipe (wipe σ vs) vs = wipe σ vs := by
  refine List.ext_getElem? fun i => ?_
  rw [wipe_get, wipe_get, wipe_length]
  by_cases hi : i ∈ vs ∧ i < σ.length
  · rw [if_pos hi, if_pos hi]
  · rw [if_neg hi]
def wipeD (Γ : Sl) : List Nat → Sl
  | [] => Γ
  | v :: vs => (wipeD Γ vs).set v none
theorem wipeD_length (Γ : Sl) : ∀ vs : List Nat, (wipeD Γ vs).length = Γ.length
  | [] => rfl
  | v :: vs => by unfold wipeD; rw [List.length_set, wipeD_length Γ vs]
theorem sok_wipe {K : PySem.W.Frag} {Γ : Sl} {P : Hp} {σ : L2.St} (h : SOk K Γ P σ) : ∀ vs : List Nat, SOk K (wipeD Γ vs) P (wipe σ vs)
  | [] => h
  | v :: vs => by
    have ih := sok_wipe h vs
    refine ⟨by rw [wipeD_length, wipe_length]; exact h.len, fun i d q => ?_⟩
    unfold wipeD at q
    unfold wipe
    by_cases hv : v = i
    · subst hv
      by_cases hb : v < (wipeD Γ vs).length
      · rw [List.getElem?_set_self hb] at q
        cases q
      · rw [List.getElem?_eq_none (by rw [List.length_set]; omega)] at q
        cases q
    · rw [List.getElem?_set_ne hv] at q
      rw [List.getElem?_set_ne hv]
      exact ih.at_ i d q
section
variable {X : Cx} {Γ : Sl} {M : Mem} {Φ : VP} {Ψ : Po} {elt tg iter : Expr} {ifs : List Expr} {scope : Scope} {own : List (Str × Nat)} {pos : Pos}
/-- the tests of a comprehension -/
def wpTs (X : Cx) (ifs : List Expr) : TT := fun σ H Q => ∀ pins s, Inv X pins σ H s → wpAny (model X.prog X.w) X.A (forIn ifs true fun c r => if r = true then do let ok ← isTrue c X.env (eval c X.env); pure (ForInStep.yield ok) else pure (ForInStep.yield r)) (TP X pins σ Q) X.xe s
theorem pts_wp {X : Cx} {ifs : List Expr} : PTs X ifs (wpTs X ifs) := ⟨fun pins s _ _ _ I h => h pins s I⟩
def WTs (X : Cx) (Γ : Sl) (M : Mem) (ifs : List Expr) (B : Bool → Mem → Prop) : Prop := ∀ P σ H, SOk X.K Γ P σ → MOk X.K M P H → wpTs X ifs σ H (FinB X.K P B)
theorem wts_nil {B : Bool → Mem → Prop} (h : B true M) : WTs X Γ M [] B := fun P σ H s m pins sh I => pts_nil.run pins sh σ H _ I (show FinB X.K P B true H from ⟨M, P, h, Same.refl P, m⟩)
theorem wts_one {B : Bool → Mem → Prop} {c : Expr} (h : WT X Γ M c B) : WTs X Γ M [c] B := fun P σ H s m pins sh I => (pts_one pt_wp).run pins sh σ H _ I (h P σ H s m)
/-- a block's context -/
abbrev blkOf (X : Cx) (scope : Scope) (s : Shared) (H : Hp) (C : Addr) (cl : List (Str × Addr)) (fp : List Addr) : Cx := X.blk s H scope (compEnvC scope cl C X.env) fp
/-- one turn of a comprehension: out is made so far (at l, ahead of the other objects of one's own) -/
def Turn1 (X : Cx) (scope : Scope) (ifs : List Expr) (elt : Expr) (J : List D → Mem → Prop) (Γ' : Sl) (l : Addr) (out : List D) (M' : Mem) : Prop := ∀ s H C cl fp,
  WTs (blkOf X scope s H C cl fp) Γ' ((l, .lst out) :: M') ifs fun k M1 => (k = true → ∀ s H C cl fp, WE (blkOf X scope s H C cl fp) Γ' M1 elt fun y M2 => ∃ M3, M2 = (l, .lst out) :: M3 ∧ out.length < sizeLine ∧ J (out ++ [y]) M3) ∧ (k = false → ∃ M3, M1 = (l, .lst out) :: M3 ∧ J out M3)
/-- what a turn leaves: l's list, the others -/
def LcInv (K : PySem.W.Frag) (P : Hp) (l : Addr) (J : List D → Mem → Prop) (H : Hp) : Prop := ∃ out M' P', J out M' ∧ Ex P P' ∧ MOk K ((l, .lst out) :: M') P' H
def tsB (X : Cx) (scope : Scope) (ifs : List Expr) : TT := fun σ H Q => ∀ s H0 C cl fp, wpTs (blkOf X scope s H0 C cl fp) ifs σ H Q
def teB (X : Cx) (scope : Scope) (elt : Expr) : TE := fun σ H Q => ∀ s H0 C cl fp, wpT (blkOf X scope s H0 C cl fp) elt σ H Q
theorem lc_turn {J : List D → Mem → Prop} {Γ' : Sl} {l : Addr} {out : List D} {M' : Mem} {P P' : Hp} {σ : L2.St} {H : Hp} (t : Turn1 X scope ifs elt J Γ' l out M') (e : Ex P P') (s : SOk X.K Γ' P' σ) (m : MOk X.K ((l, .lst out) :: M') P' H) :
    tsB X scope ifs σ H fun b H3 => if b = true then teB X scope elt σ H3 fun y H4 => ∃ acc, H4 l = some (.lst acc) ∧ acc.length < sizeLine ∧ LcInv X.K P l J (upd H4 l (.lst (acc ++ [y]))) else LcInv X.K P l J H3 := by
  intro s0 H0 C cl fp pins sh I
  refine thn (t s0 H0 C cl fp P' σ H s m pins sh I) fun b sh2 ⟨H2, I2, M1, P1, q, e1, m1⟩ => ⟨H2, I2, ?_⟩
  cases b with
  | false =>
    obtain ⟨M3, e3, j3⟩ := q.2 rfl
    subst e3
    exact iteF ⟨out, M3, P1, j3, e.trans e1, m1⟩
  | true =>
    refine iteT fun s0' H0' C' cl' fp' => ?_
    refine (q.1 rfl s0' H0' C' cl' fp' P1 σ H2 (s.mono e1) m1).mono fun v H4 ⟨d, M4, P4, ⟨M3, eM, hl, j4⟩, e4, m4, i4⟩ => ?_
    subst eM
    obtain ⟨_, xs, h1, h2⟩ := m4.at_ l _ List.mem_cons_self
    refine ⟨xs, h1, by rw [h2.1]; exact hl, out ++ [d], M3, P4, j4, (e.trans e1).trans e4, ?_⟩
    exact m4.put (k := 0) rfl ⟨_, upd_same, h2.append (.cons i4 .nil)⟩
/-- [elt for x in list if ..], a list of one's own; J: what holds by the turn -/
theorem we_lcL {x : Str} {px : Pos} {j : Nat} (hN : X.N.Nodup)
    (h : WE X Γ M iter fun d M1 => ∃ (J : Nat → List D → Mem → Prop) (xs : List D), d = .lst xs ∧ J 0 [] M1 ∧
      (∀ (i : Nat) (y : D) (l : Addr) (out : List D) (M' : Mem), xs[i]? = some y → J i out M' → Turn1 X scope ifs elt (J (i + 1)) ((wipeD Γ (own.map (·.2))).set j (some y)) l out M') ∧ ∀ l out M', J xs.length out M' → Φ (.adr l) ((l, .lst out) :: M'))
    (hj : j ∈ own.map (·.2)) (ok : BlkOk X.N X.env.scope scope own) (hc : X.calm = true)
    (hg : ∀ (s : Shared) (H : Hp) (C : Addr) (cl : List (Str × Addr)) (fp : List Addr), PG (X.blk s H scope (compEnvC scope cl C X.env) fp) (.Name x px) (gName j))
    (hs : ∀ x, foldedSetIterable iter X.env x = pure x) : WE X Γ M (.ListComp elt [⟨.Name x px, iter, ifs, 0⟩] scope pos) Φ := fun P σ H s m => by
  refine wpT_of (pe_lc (tt := tsB X scope ifs) (te := teB X scope elt) hc hN (pi_list pe_wp) ok hg (fun s0 H0 C cl fp => ⟨fun pins sh σ' H' Q I q => q s0 H0 C cl fp pins sh I⟩) (fun s0 H0 C cl fp => ⟨fun pins sh σ' H' Q I q => q s0 H0 C cl fp pins sh I⟩) hs) ?_
  refine (h P σ H s m).mono fun v H1 ⟨d, M1, P1, ⟨J, xs, hd, j0, hstep, hdone⟩, e1, m1, i1⟩ => ?_
  subst hd
  cases i1 with
  | @lst a vs _ hq hl hi =>
    refine ⟨a, rfl, ⟨vs, m1.ex.seq hq⟩, fun l hn => lc_list (xs := vs) (fun i => LcInv X.K P1 l (J i)) ⟨[], M1, P1, j0, Same.refl P1, m1.own hn ⟨[], upd_same, .nil⟩⟩ (fun i H' _ ⟨out, M', P', jj, e', m'⟩ => (m'.ex.seq (e'.seq hq))) ?_ ?_⟩
    · rintro i x0 H' hx ⟨out, M', P', jj, e', m'⟩
      obtain ⟨y, hy, iy⟩ := IsDs.getV (K := X.K) (P := P1) ⟨hl, hi⟩ hx
      refine ⟨by rw [wipe_set hj, wipe_wipe], ?_⟩
      exact lc_turn (hstep i y l out M' hy jj) e' ((sok_wipe (s.mono (e1.trans e')) (own.map (·.2))).set (iy.mono e')) m'
    · rintro H' ⟨out, M', P', jj, e', m'⟩
      exact ⟨_, _, P', hdone l out M' (by rw [← hl]; exact jj), e1.trans e', m', .adr⟩
/-- [elt for x in tuple if ..], a list of one's own; J: what holds by the turn -/
theorem we_lcT {x : Str} {px : Pos} {j : Nat} (hN : X.N.Nodup)
    (h : WE X Γ M iter fun d M1 => ∃ (J : Nat → List D → Mem → Prop) (xs : List D), d = .tup xs ∧ J 0 [] M1 ∧
      (∀ (i : Nat) (y : D) (l : Addr) (out : List D) (M' : Mem), xs[i]? = some y → J i out M' → Turn1 X scope ifs elt (J (i + 1)) ((wipeD Γ (own.map (·.2))).set j (some y)) l out M') ∧ ∀ l out M', J xs.length out M' → Φ (.adr l) ((l, .lst out) :: M'))
    (hj : j ∈ own.map (·.2)) (ok : BlkOk X.N X.env.scope scope own) (hc : X.calm = true)
    (hg : ∀ (s : Shared) (H : Hp) (C : Addr) (cl : List (Str × Addr)) (fp : List Addr), PG (X.blk s H scope (compEnvC scope cl C X.env) fp) (.Name x px) (gName j))
    (hs : ∀ x, foldedSetIterable iter X.env x = pure x) : WE X Γ M (.ListComp elt [⟨.Name x px, iter, ifs, 0⟩] scope pos) Φ := fun P σ H s m => by
  refine wpT_of (pe_lc (tt := tsB X scope ifs) (te := teB X scope elt) hc hN (pi_tup pe_wp) ok hg (fun s0 H0 C cl fp => ⟨fun pins sh σ' H' Q I q => q s0 H0 C cl fp pins sh I⟩) (fun s0 H0 C cl fp => ⟨fun pins sh σ' H' Q I q => q s0 H0 C cl fp pins sh I⟩) hs) ?_
  refine (h P σ H s m).mono fun v H1 ⟨d, M1, P1, ⟨J, xs, hd, j0, hstep, hdone⟩, e1, m1, i1⟩ => ?_
  subst hd
  cases i1 with
  | @tup a vs _ hq hl hi =>
    refine ⟨a, rfl, ⟨vs, Same.tupS m1.ex hq⟩, fun l hn => lc_tup (xs := vs) (fun i => LcInv X.K P1 l (J i)) ⟨[], M1, P1, j0, Same.refl P1, m1.own hn ⟨[], upd_same, .nil⟩⟩ (fun i H' _ ⟨out, M', P', jj, e', m'⟩ => (Same.tupS m'.ex (Same.tupS e' hq))) ?_ ?_⟩
    · rintro i x0 H' hx ⟨out, M', P', jj, e', m'⟩
      obtain ⟨y, hy, iy⟩ := IsDs.getV (K := X.K) (P := P1) ⟨hl, hi⟩ hx
      refine ⟨by rw [wipe_set hj, wipe_wipe], ?_⟩
      exact lc_turn (hstep i y l out M' hy jj) e' ((sok_wipe (s.mono (e1.trans e')) (own.map (·.2))).set (iy.mono e')) m'
    · rintro H' ⟨out, M', P', jj, e', m'⟩
      exact ⟨_, _, P', hdone l out M' (by rw [← hl]; exact jj), e1.trans e', m', .adr⟩
/-- [elt for x, y in list if ..] -/
theorem we_lcL2 {tgt : Expr} {j j2 : Nat} (hN : X.N.Nodup)
    (h : WE X Γ M iter fun d M1 => ∃ (J : Nat → List D → Mem → Prop) (xs : List D), d = .lst xs ∧ J 0 [] M1 ∧
      (∀ (i : Nat) (y : D) (l : Addr) (out : List D) (M' : Mem), xs[i]? = some y → J i out M' → ∃ y1 y2, y = .tup [y1, y2] ∧ Turn1 X scope ifs elt (J (i + 1)) (((wipeD Γ (own.map (·.2))).set j (some y1)).set j2 (some y2)) l out M') ∧ ∀ l out M', J xs.length out M' → Φ (.adr l) ((l, .lst out) :: M'))
    (hj : j ∈ own.map (·.2)) (hj2 : j2 ∈ own.map (·.2)) (ok : BlkOk X.N X.env.scope scope own) (hc : X.calm = true)
    (hg : ∀ (s : Shared) (H : Hp) (C : Addr) (cl : List (Str × Addr)) (fp : List Addr), PG (X.blk s H scope (compEnvC scope cl C X.env) fp) tgt (gTup X.K 2 (gCons (gName j) (gCons (gName j2) gNil))))
    (hs : ∀ x, foldedSetIterable iter X.env x = pure x) : WE X Γ M (.ListComp elt [⟨tgt, iter, ifs, 0⟩] scope pos) Φ := fun P σ H s m => by
  refine wpT_of (pe_lc (tt := tsB X scope ifs) (te := teB X scope elt) hc hN (pi_list pe_wp) ok hg (fun s0 H0 C cl fp => ⟨fun pins sh σ' H' Q I q => q s0 H0 C cl fp pins sh I⟩) (fun s0 H0 C cl fp => ⟨fun pins sh σ' H' Q I q => q s0 H0 C cl fp pins sh I⟩) hs) ?_
  refine (h P σ H s m).mono fun v H1 ⟨d, M1, P1, ⟨J, xs, hd, j0, hstep, hdone⟩, e1, m1, i1⟩ => ?_
  subst hd
  cases i1 with
  | @lst a vs _ hq hl hi =>
    refine ⟨a, rfl, ⟨vs, m1.ex.seq hq⟩, fun l hn => lc_list (xs := vs) (fun i => LcInv X.K P1 l (J i)) ⟨[], M1, P1, j0, Same.refl P1, m1.own hn ⟨[], upd_same, .nil⟩⟩ (fun i H' _ ⟨out, M', P', jj, e', m'⟩ => (m'.ex.seq (e'.seq hq))) ?_ ?_⟩
    · rintro i x0 H' hx ⟨out, M', P', jj, e', m'⟩
      obtain ⟨y, hy, iy⟩ := IsDs.getV (K := X.K) (P := P1) ⟨hl, hi⟩ hx
      obtain ⟨y1, y2, ey, ht⟩ := hstep i y l out M' hy jj
      subst ey
      cases iy with
      | tup hs2 hl2 hi2 =>
        obtain ⟨u1, u2, eu, hu1, hu2⟩ := IsDs.un2 (K := X.K) (P := P1) ⟨hl2, hi2⟩
        subst eu
        refine ⟨_, _, rfl, Same.tupS m'.ex (Same.tupS e' hs2), rfl, u1, [u2], rfl, u2, [], rfl, rfl, ?_⟩
        refine ⟨by rw [wipe_set hj2, wipe_set hj, wipe_wipe], ?_⟩
        exact lc_turn ht e' (((sok_wipe (s.mono (e1.trans e')) (own.map (·.2))).set (hu1.mono e')).set (hu2.mono e')) m'
    · rintro H' ⟨out, M', P', jj, e', m'⟩
      exact ⟨_, _, P', hdone l out M' (by rw [← hl]; exact jj), e1.trans e', m', .adr⟩
/-- [elt for x, y in tuple if ..] -/
theorem we_lcT2 {tgt : Expr} {j j2 : Nat} (hN : X.N.Nodup)
    (h : WE X Γ M iter fun d M1 => ∃ (J : Nat → List D → Mem → Prop) (xs : List D), d = .tup xs ∧ J 0 [] M1 ∧
      (∀ (i : Nat) (y : D) (l : Addr) (out : List D) (M' : Mem), xs[i]? = some y → J i out M' → ∃ y1 y2, y = .tup [y1, y2] ∧ Turn1 X scope ifs elt (J (i + 1)) (((wipeD Γ (own.map (·.2))).set j (some y1)).set j2 (some y2)) l out M') ∧ ∀ l out M', J xs.length out M' → Φ (.adr l) ((l, .lst out) :: M'))
    (hj : j ∈ own.map (·.2)) (hj2 : j2 ∈ own.map (·.2)) (ok : BlkOk X.N X.env.scope scope own) (hc : X.calm = true)
    (hg : ∀ (s : Shared) (H : Hp) (C : Addr) (cl : List (Str × Addr)) (fp : List Addr), PG (X.blk s H scope (compEnvC scope cl C X.env) fp) tgt (gTup X.K 2 (gCons (gName j) (gCons (gName j2) gNil))))
    (hs : ∀ x, foldedSetIterable iter X.env x = pure x) : WE X Γ M (.ListComp elt [⟨tgt, iter, ifs, 0⟩] scope pos) Φ := fun P σ H s m => by
  refine wpT_of (pe_lc (tt := tsB X scope ifs) (te := teB X scope elt) hc hN (pi_tup pe_wp) ok hg (fun s0 H0 C cl fp => ⟨fun pins sh σ' H' Q I q => q s0 H0 C cl fp pins sh I⟩) (fun s0 H0 C cl fp => ⟨fun pins sh σ' H' Q I q => q s0 H0 C cl fp pins sh I⟩) hs) ?_
  refine (h P σ H s m).mono fun v H1 ⟨d, M1, P1, ⟨J, xs, hd, j0, hstep, hdone⟩, e1, m1, i1⟩ => ?_
  subst hd
  cases i1 with
  | @tup a vs _ hq hl hi =>
    refine ⟨a, rfl, ⟨vs, Same.tupS m1.ex hq⟩, fun l hn => lc_tup (xs := vs) (fun i => LcInv X.K P1 l (J i)) ⟨[], M1, P1, j0, Same.refl P1, m1.own hn ⟨[], upd_same, .nil⟩⟩ (fun i H' _ ⟨out, M', P', jj, e', m'⟩ => (Same.tupS m'.ex (Same.tupS e' hq))) ?_ ?_⟩
    · rintro i x0 H' hx ⟨out, M', P', jj, e', m'⟩
      obtain ⟨y, hy, iy⟩ := IsDs.getV (K := X.K) (P := P1) ⟨hl, hi⟩ hx
      obtain ⟨y1, y2, ey, ht⟩ := hstep i y l out M' hy jj
      subst ey
      cases iy with
      | tup hs2 hl2 hi2 =>
        obtain ⟨u1, u2, eu, hu1, hu2⟩ := IsDs.un2 (K := X.K) (P := P1) ⟨hl2, hi2⟩
        subst eu
        refine ⟨_, _, rfl, Same.tupS m'.ex (Same.tupS e' hs2), rfl, u1, [u2], rfl, u2, [], rfl, rfl, ?_⟩
        refine ⟨by rw [wipe_set hj2, wipe_set hj, wipe_wipe], ?_⟩
        exact lc_turn ht e' (((sok_wipe (s.mono (e1.trans e')) (own.map (·.2))).set (hu1.mono e')).set (hu2.mono e')) m'
    · rintro H' ⟨out, M', P', jj, e', m'⟩
      exact ⟨_, _, P', hdone l out M' (by rw [← hl]; exact jj), e1.trans e', m', .adr⟩
/-- [elt for x in range(a) if ..]; range(a, b) -/
theorem we_lcR1 {x : Str} {px p pos2 : Pos} {j : Nat} {a : Expr} (hN : X.N.Nodup) (hg0 : Gl X "range") (hm : X.mg "range" = none)
    (h : WA X Γ M [a] fun ds M1 => ∃ (J : Nat → List D → Mem → Prop) (n : Int), ds = [.int n] ∧ -(2 ^ 62) ≤ n ∧ n < 2 ^ 62 ∧ J 0 [] M1 ∧
      (∀ (i : Nat) (l : Addr) (out : List D) (M' : Mem), (i : Int) < n → J i out M' → Turn1 X scope ifs elt (J (i + 1)) ((wipeD Γ (own.map (·.2))).set j (some (.int (i : Int)))) l out M') ∧ ∀ l out M', J n.toNat out M' → Φ (.adr l) ((l, .lst out) :: M'))
    (hj : j ∈ own.map (·.2)) (ok : BlkOk X.N X.env.scope scope own) (hc : X.calm = true)
    (hg : ∀ (s : Shared) (H : Hp) (C : Addr) (cl : List (Str × Addr)) (fp : List Addr), PG (X.blk s H scope (compEnvC scope cl C X.env) fp) (.Name x px) (gName j))
    (hs : ∀ x, foldedSetIterable (.Call (.Name "range" p) [a] [] pos2) X.env x = pure x) (hst : starEach [a] X.env = [(false, eval a X.env)] := by rfl) : WE X Γ M (.ListComp elt [⟨.Name x px, .Call (.Name "range" p) [a] [] pos2, ifs, 0⟩] scope pos) Φ := fun P σ H s m => by
  refine wpT_of (pe_lc (tt := tsB X scope ifs) (te := teB X scope elt) hc hN (pi_range1 hg0 hm pa_wp hst) ok hg (fun s0 H0 C cl fp => ⟨fun pins sh σ' H' Q I q => q s0 H0 C cl fp pins sh I⟩) (fun s0 H0 C cl fp => ⟨fun pins sh σ' H' Q I q => q s0 H0 C cl fp pins sh I⟩) hs) ?_
  refine (h P σ H s m).mono fun vs H1 ⟨ds, M1, P1, ⟨J, n, hd, hb1, hb2, j0, hstep, hdone⟩, e1, m1, i1⟩ => ?_
  subst hd
  obtain ⟨v, rfl, hv⟩ := i1.un1
  cases hv
  refine ⟨n, rfl, hb1, hb2, fun l hn => lc_range (lo := 0) (n := n.toNat) (fun i => LcInv X.K P1 l (J i)) ⟨[], M1, P1, j0, Same.refl P1, m1.own hn ⟨[], upd_same, .nil⟩⟩ ?_ ?_⟩
  · rintro i H' hi ⟨out, M', P', jj, e', m'⟩
    refine ⟨by rw [wipe_set hj, wipe_wipe], ?_⟩
    refine lc_turn (hstep i l out M' (by omega) jj) e' ((sok_wipe (s.mono (e1.trans e')) (own.map (·.2))).set ?_) m'
    rw [Int.zero_add]
    exact .int
  · rintro H' ⟨out, M', P', jj, e', m'⟩
    exact ⟨_, _, P', hdone l out M' jj, e1.trans e', m', .adr⟩
theorem we_lcR2 {x : Str} {px p pos2 : Pos} {j : Nat} {a b : Expr} (hN : X.N.Nodup) (hg0 : Gl X "range") (hm : X.mg "range" = none)
    (h : WA X Γ M [a, b] fun ds M1 => ∃ (J : Nat → List D → Mem → Prop) (lo n : Int), ds = [.int lo, .int n] ∧ (-(2 ^ 62) ≤ lo ∧ lo < 2 ^ 62 ∧ -(2 ^ 62) ≤ n ∧ n < 2 ^ 62) ∧ J 0 [] M1 ∧
      (∀ (i : Nat) (l : Addr) (out : List D) (M' : Mem), lo + (i : Int) < n → J i out M' → Turn1 X scope ifs elt (J (i + 1)) ((wipeD Γ (own.map (·.2))).set j (some (.int (lo + (i : Int))))) l out M') ∧ ∀ l out M', J (n - lo).toNat out M' → Φ (.adr l) ((l, .lst out) :: M'))
    (hj : j ∈ own.map (·.2)) (ok : BlkOk X.N X.env.scope scope own) (hc : X.calm = true)
    (hg : ∀ (s : Shared) (H : Hp) (C : Addr) (cl : List (Str × Addr)) (fp : List Addr), PG (X.blk s H scope (compEnvC scope cl C X.env) fp) (.Name x px) (gName j))
    (hs : ∀ x, foldedSetIterable (.Call (.Name "range" p) [a, b] [] pos2) X.env x = pure x) (hst : starEach [a, b] X.env = [(false, eval a X.env), (false, eval b X.env)] := by rfl) (hst2 : starEach [b] X.env = [(false, eval b X.env)] := by rfl) : WE X Γ M (.ListComp elt [⟨.Name x px, .Call (.Name "range" p) [a, b] [] pos2, ifs, 0⟩] scope pos) Φ := fun P σ H s m => by
  refine wpT_of (pe_lc (tt := tsB X scope ifs) (te := teB X scope elt) hc hN (pi_range2 hg0 hm pa_wp hst hst2) ok hg (fun s0 H0 C cl fp => ⟨fun pins sh σ' H' Q I q => q s0 H0 C cl fp pins sh I⟩) (fun s0 H0 C cl fp => ⟨fun pins sh σ' H' Q I q => q s0 H0 C cl fp pins sh I⟩) hs) ?_
  refine (h P σ H s m).mono fun vs H1 ⟨ds, M1, P1, ⟨J, lo, n, hd, hb, j0, hstep, hdone⟩, e1, m1, i1⟩ => ?_
  subst hd
  obtain ⟨v, v2, rfl, hv, hv2⟩ := i1.un2
  cases hv
  cases hv2
  refine ⟨lo, n, rfl, hb, fun l hn => lc_range (lo := lo) (n := (n - lo).toNat) (fun i => LcInv X.K P1 l (J i)) ⟨[], M1, P1, j0, Same.refl P1, m1.own hn ⟨[], upd_same, .nil⟩⟩ ?_ ?_⟩
  · rintro i H' hi ⟨out, M', P', jj, e', m'⟩
    refine ⟨by rw [wipe_set hj, wipe_wipe], ?_⟩
    exact lc_turn (hstep i l out M' (by omega) jj) e' ((sok_wipe (s.mono (e1.trans e')) (own.map (·.2))).set .int) m'
  · rintro H' ⟨out, M', P', jj, e', m'⟩
    exact ⟨_, _, P', hdone l out M' jj, e1.trans e', m', .adr⟩
/-- a list of one's own that an expression leaves changes no more -/
theorem we_frz {e : Expr} (h : WE X Γ M e fun d M2 => ∃ l ds M3, d = .adr l ∧ M2 = (l, .lst ds) :: M3 ∧ Φ (.lst ds) M3) : WE X Γ M e Φ := fun P σ H s m =>
  (h P σ H s m).mono fun v H2 ⟨d, M2, P2, ⟨l, ds, M3, ed, eM, q⟩, e2, m2, i2⟩ => by
    subst ed eM
    cases i2
    obtain ⟨P4, e4, m4, i4⟩ := frz_lst m2
    exact ⟨_, M3, P4, q, e2.trans e4, m4, i4⟩
end
end Dt

set_option Elab.async false
set_option linter.all false
set_option maxRecDepth 100000
set_option maxHeartbeats 2000000
/-! Dt, part 6: == of data, operators of own classes, enumerate of a tuple, zip. -/
namespace Dt
open PySem PySem.Spec PyProof.Rows L2
/-! ### data as PyData -/
mutual
def py : D → PyData
  | .non => .none
  | .bl b => .bool b
  | .int i => .int i
  | .str x => .str x
  | .tup xs => .tuple (pys xs)
  | .lst xs => .list (pys xs)
  | .ty _ => .none
  | .obj _ _ => .none
  | .adr _ => .none
def pys : List D → List PyData
  | [] => []
  | x :: xs => py x :: pys xs
end
mutual
def okD : D → Bool
  | .non => true
  | .bl _ => true
  | .int _ => true
  | .str _ => true
  | .tup xs => okDs xs
  | .lst xs => okDs xs
  | .ty _ => false
  | .obj _ _ => false
  | .adr _ => false
def okDs : List D → Bool
  | [] => true
  | x :: xs => okD x && okDs xs
end
section
variable {K : PySem.W.Frag} {P H : Hp}
mutual
theorem dp_of (e : Ex P H) : ∀ (d : D) (v : V), okD d = true → IsD K P v d → Dp K H v (py d)
  | .non, _, _, h => by cases h; exact .non
  | .bl b, _, _, h => by cases h; exact .bl b
  | .int i, _, _, h => by cases h; exact .int i
  | .str x, _, _, h => by cases h; exact .str x
  | .tup xs, _, o, h => by
    cases h with
    | tup hs hl hi => exact .tup (Same.tupS e hs) (dps_of e xs _ o ⟨hl, hi⟩)
  | .lst xs, _, o, h => by
    cases h with
    | lst hs hl hi => exact .lst (e.seq hs) (dps_of e xs _ o ⟨hl, hi⟩)
  | .ty _, _, o, _ => by cases o
  | .obj _ _, _, o, _ => by cases o
  | .adr _, _, o, _ => by cases o
theorem dps_of (e : Ex P H) : ∀ (ds : List D) (vs : List V), okDs ds = true → IsDs K P vs ds → DpAll K H vs (pys ds)
  | [], _, _, h => by
    rw [h.unnil]
    exact .nil
  | d :: ds, vs, o, h => by
    obtain ⟨v, r, rfl, hv, hr⟩ := h.uncons
    have o2 : (okD d && okDs ds) = true := o
    obtain ⟨o3, o4⟩ := Bool.and_eq_true_iff.mp o2
    exact .cons (dp_of e d v o3 hv) (dps_of e ds r o4 hr)
end
end
/-- data that == takes -/
def shp (d : D) : Bool := okD d && SeqAt.shaped (py d)
/-- what d stands for, by the objects of one's own -/
def SeenD (M : Mem) (d e : D) : Prop := d = e ∨ ∃ (k : Nat) (l : Addr) (ds : List D), d = .adr l ∧ M[k]? = some (l, .lst ds) ∧ e = .lst ds
section
variable {X : Cx} {Γ : Sl} {M : Mem} {Φ : VP} {x y : D}
theorem SeenD.dp {K : PySem.W.Frag} {P H : Hp} {d e : D} {v : V} (h : SeenD M d e) (m : MOk K M P H) (i : IsD K P v d) (o : okD e = true) : Dp K H v (py e) := by
  rcases h with rfl | ⟨k, l, ds, rfl, hk, rfl⟩
  · exact dp_of m.ex _ _ o i
  · cases i
    obtain ⟨_, xs, h1, h2⟩ := m.get hk
    exact .lst (SqL.of h1) (dps_of m.ex ds xs o h2)
theorem od_eqD {x' y' : D} (hu : X.A.units + 64 < cLine) (sx : SeenD M x x') (sy : SeenD M y y') (hx : shp x' = true) (hy : shp y' = true) (q : Φ (.bl (PyData.eqv (py x') (py y'))) M) : OpD X (compareOp .Eq) x y M Φ := fun P H a b m ia ib => by
  obtain ⟨h1, h2⟩ := Bool.and_eq_true_iff.mp hx
  obtain ⟨h3, h4⟩ := Bool.and_eq_true_iff.mp hy
  exact opT_of (op_eqD hu) ⟨_, _, sx.dp m ia h1, sy.dp m ib h3, h2, h4, .one q m .bl⟩
theorem od_neD {x' y' : D} (hu : X.A.units + 64 < cLine) (sx : SeenD M x x') (sy : SeenD M y y') (hx : shp x' = true) (hy : shp y' = true) (q : Φ (.bl (!PyData.eqv (py x') (py y'))) M) : OpD X (compareOp .NotEq) x y M Φ := fun P H a b m ia ib => by
  obtain ⟨h1, h2⟩ := Bool.and_eq_true_iff.mp hx
  obtain ⟨h3, h4⟩ := Bool.and_eq_true_iff.mp hy
  exact opT_of (op_neD hu) ⟨_, _, sx.dp m ia h1, sy.dp m ib h3, h2, h4, .one q m .bl⟩
end
/-! ### operators of own classes -/
section
variable {X : Cx} {Γ : Sl} {M : Mem} {Φ : VP} {x y d : D} {k : Nat} {C : Addr} {fs : List (Str × D)} {S : DS}
/-- the method runs -/
theorem run_me {f : Addr} {fd : FuncData} {ps : List Str} {P H : Hp} {vs : List V} {us : List Value} {ds : List D} {pins : List (Addr × Obj)} {σ : L2.St} {s : Shared} (F : FnOk X.prog X.w X.K X.mg X.base CX0 k f fd ps (spOf X.K S)) (hr : Room k X.A) (hb : Binds X.K fd ps []) (I : Inv X pins σ H s) (r : Vals vs us) (i : IsDs X.K P vs ds) (m : MOk X.K M P H) (h : S ds M Φ) :
    wpAny (model X.prog X.w) X.A (call (.ref f) us) (EP X pins σ (Fin X.K P Φ)) X.xe s := run_fn F hr hb .nil pass0 I r (sp_of i m h)
theorem inst_of {P H : Hp} {v : V} {pins : List (Addr × Obj)} {σ : L2.St} {s : Shared} {u : Value} (ho : ObjD M d C fs) (m : MOk X.K M P H) (i : IsD X.K P v d) (I : Inv X pins σ H s) (r : RelV v u) : ∃ a dx od, v = .ref a ∧ u = .ref a ∧ PySem.W.InstAt s.heap a (PySem.W.instObj C dx) C (some od) := by
  obtain ⟨a, dx, xs, rfl, ha, hx⟩ := ho.at_ m i
  cases r
  obtain ⟨mA, O, _⟩ := ins_get I.hok ha
  obtain ⟨od, J, _⟩ := O.look
  exact ⟨a, dx, od, rfl, rfl, J⟩
/-- if o, not o: by __bool__ -/
theorem tr_own {B : Bool → Mem → Prop} (F : HasMe X.prog X.w X.K X.mg X.base k C "__bool__" S) (hr : Room k X.A) (ho : ObjD M d C fs) (h : S [d] M fun r M1 => ∃ b, r = .bl b ∧ B b M1) : TrD X d M B := fun P H v m i pins σ s u I r => by
  obtain ⟨f, fd, ps, F1, hm, hb⟩ := F
  obtain ⟨a, dx, od, rfl, rfl, J⟩ := inst_of ho m i I r
  obtain ⟨mm, Fr1⟩ := I.fr
  refine PySem.W.truthy_K Fr1 I.ok.mod.kin J hm.at_ hm.fn (thn (run_me (vs := [.ref a]) F1 hr hb I (.cons rfl .nil) (.cons i .nil) m h) fun u2 s2 ⟨v2, H2, I2, r2, d2, M2, P2, ⟨b, eb, q⟩, e2, m2, i2⟩ => ?_)
  subst eb
  cases i2
  cases r2
  exact ⟨H2, I2, M2, P2, q, e2, m2⟩
/-- v in o: by __contains__ -/
theorem od_in (F : HasMe X.prog X.w X.K X.mg X.base k C "__contains__" S) (hr : Room k X.A) (ho : ObjD M y C fs) (h : S [y, x] M fun r M1 => ∃ b, r = .bl b ∧ Φ (.bl b) M1) : OpD X (compareOp .In) x y M Φ := fun P H a b m ia ib pins σ s u w I r1 r2 => by
  obtain ⟨f, fd, ps, F1, hm, hb⟩ := F
  obtain ⟨a2, dx, od, rfl, rfl, J⟩ := inst_of ho m ib I r2
  obtain ⟨mm, Fr1⟩ := I.fr
  refine PySem.W.in_K Fr1 I.ok.mod.kin J hm.at_ hm.fn (thn (run_me (vs := [.ref a2, a]) F1 hr hb I (.cons rfl (.cons r1 .nil)) (.cons ib (.cons ia .nil)) m h) fun u2 s2 ⟨v2, H2, I2, rv2, d2, M2, P2, ⟨b, eb, q⟩, e2, m2, i2⟩ => ?_)
  subst eb
  cases i2
  cases rv2
  exact wpAny_truthy_bool ⟨.bl b, H2, I2, rfl, _, M2, P2, q, e2, m2, .bl⟩
theorem od_notIn (F : HasMe X.prog X.w X.K X.mg X.base k C "__contains__" S) (hr : Room k X.A) (ho : ObjD M y C fs) (h : S [y, x] M fun r M1 => ∃ b, r = .bl b ∧ Φ (.bl (!b)) M1) : OpD X (compareOp .NotIn) x y M Φ := fun P H a b m ia ib pins σ s u w I r1 r2 => by
  obtain ⟨f, fd, ps, F1, hm, hb⟩ := F
  obtain ⟨a2, dx, od, rfl, rfl, J⟩ := inst_of ho m ib I r2
  obtain ⟨mm, Fr1⟩ := I.fr
  refine PySem.W.notIn_K Fr1 I.ok.mod.kin J hm.at_ hm.fn (thn (run_me (vs := [.ref a2, a]) F1 hr hb I (.cons rfl (.cons r1 .nil)) (.cons ib (.cons ia .nil)) m h) fun u2 s2 ⟨v2, H2, I2, rv2, d2, M2, P2, ⟨b, eb, q⟩, e2, m2, i2⟩ => ?_)
  subst eb
  cases i2
  cases rv2
  exact wpAny_truthy_bool ⟨.bl (!b), H2, I2, rfl, _, M2, P2, q, e2, m2, .bl⟩
/-- a <= b and its like, both of one class, by the class's own def -/
theorem od_own {op : CmpOp} {gs : List (Str × D)} {nm : Str} (F : HasMe X.prog X.w X.K X.mg X.base k C nm S) (hnm : (cmpInfo op).2.1 = nm) (hop : ∀ u w, compareOp op u w = richCompare op u w) (hr : Room k X.A) (ho : ObjD M x C fs) (ho2 : ObjD M y C gs) (h : S [x, y] M Φ) : OpD X (compareOp op) x y M Φ := fun P H a b m ia ib pins σ s u w I r1 r2 => by
  obtain ⟨f, fd, ps, F1, hm, hb⟩ := F
  obtain ⟨a1, dx, od, rfl, rfl, J⟩ := inst_of ho m ia I r1
  obtain ⟨a2, dx2, od2, rfl, rfl, J2⟩ := inst_of ho2 m ib I r2
  obtain ⟨mm, Fr1⟩ := I.fr
  rw [hop]
  refine PySem.W.cmp_K hr.units0 Fr1 I.ok.mod.kin J J2.type (by unfold PySem.W.notFirst; rw [beq_self_eq_true]; exact Bool.true_or _) (by rw [hnm]; exact hm.at_) hm.fn (thn (run_me (vs := [.ref a1, .ref a2]) F1 hr hb I (.cons rfl (.cons rfl .nil)) (.cons ia (.cons ib .nil)) m h) fun u2 s2 ⟨v2, H2, I2, rv2, z⟩ => ?_)
  exact SlX.cmpback rv2 ⟨v2, H2, I2, rv2, z⟩
/-- a & b and its like, both of one class -/
theorem od_ownB {op : Operator} {gs : List (Str × D)} {nm : Str} (F : HasMe X.prog X.w X.K X.mg X.base k C nm S) (hnm : PySem.dunder op.info.2 = nm) (hsf : PySem.W.selfFirst X.K C = true) (hr : Room k X.A) (ho : ObjD M x C fs) (ho2 : ObjD M y C gs) (h : S [x, y] M Φ) : OpD X (binaryOp op) x y M Φ := fun P H a b m ia ib pins σ s u w I r1 r2 => by
  obtain ⟨f, fd, ps, F1, hm, hb⟩ := F
  obtain ⟨a1, dx, od, rfl, rfl, J⟩ := inst_of ho m ia I r1
  obtain ⟨a2, dx2, od2, rfl, rfl, J2⟩ := inst_of ho2 m ib I r2
  obtain ⟨mm, Fr1⟩ := I.fr
  refine PySem.W.binop_K Fr1 I.ok.mod.kin J J2.type hsf (by rw [hnm]; exact hm.at_) hm.fn (thn (run_me (vs := [.ref a1, .ref a2]) F1 hr hb I (.cons rfl (.cons rfl .nil)) (.cons ia (.cons ib .nil)) m h) fun u2 s2 ⟨v2, H2, I2, rv2, z⟩ => ?_)
  exact SlX.cmpback rv2 ⟨v2, H2, I2, rv2, z⟩
end
/-! ### for i, x in enumerate(a tuple) -/
section
variable {prog : Program} {w : World} {A : Around} {E : Value → Shared → Prop} {s : Shared}
set_option maxHeartbeats 4000000 in
theorem enumNew {v : Value} {ob : Obj} {G : Heap → Prop} (B : Begins v ob G) :
    Meets (Builtin.«enumerate.__new__» ⟨[.type "enumerate", v], []⟩) (fun _ R s => G s.heap ∧
      R (.ok (.ret (.ref (s.heap.push ob).objs.size))) { s with heap := (s.heap.push ob).push { cls := .type "enumerate", data := .fields #[.none, .bool false, .ref s.heap.objs.size, rawInt 0, .none, .none] } }) :=
  .of_wp fun prog w A R s hz => by
    obtain ⟨hh, g, dr, tk, os⟩ := s
    obtain ⟨h1, hz⟩ := hz
    have hsub := sub_enumerate
    have q1 : ∀ {A1 : Around} {E1 : Value → Shared → Prop} {Q1 : Value → Shared → Prop}, Q1 (.ref hh.objs.size) ⟨hh.push ob, g, dr, tk, os⟩ → wpAny (model prog w) A1 (pyIter v) Q1 E1 ⟨hh, g, dr, tk, os⟩ :=
      fun q => B.iter prog w _ _ ⟨hh, g, dr, tk, os⟩ _ h1 q
    wp_walk using q1
    refine wpAny_stack_any fun st => wpAny_pure ?_
    split
    · rename_i c _ _ _ _ _
      cases (c == Value.type "enumerate")
      · wp_walk using q1
        exact ⟨_, rfl, hz⟩
      · wp_walk using q1
        exact ⟨_, rfl, hz⟩
    · wp_walk using q1
      exact ⟨_, rfl, hz⟩
theorem callEnum {v : Value} {ob : Obj} {G : Heap → Prop} {Q : Value → Shared → Prop} (B : Begins v ob G) (h1 : G s.heap)
    (hq : ∀ h', IsEnum h' (s.heap.objs.size + 1) s.heap.objs.size 0 .none → h'.get? s.heap.objs.size = some ob → h'.objs.size = s.heap.objs.size + 2 →
      (∀ b o, s.heap.get? b = some o → h'.get? b = some o) → Q (.ref (s.heap.objs.size + 1)) { s with heap := h' }) :
    wpAny (model prog w) A (call (.type "enumerate") [v]) Q E s := by
  refine callType_new F.called_enumerate (by decide) (F.typeCall_enumerate_1 _) (F.newCall_enumerate_1 _) (fun obj => F.args_object_init_2 obj _) F.entry_enumerate_new (enumNew B) ⟨h1, ?_⟩
  have hz : (s.heap.push ob).objs.size = s.heap.objs.size + 1 := Heap.size_push ..
  show _ ∧ _
  rw [hz]
  have he : IsEnum ((s.heap.push ob).push { cls := .type "enumerate", data := .fields #[.none, .bool false, .ref s.heap.objs.size, rawInt 0, .none, .none] }) (s.heap.objs.size + 1) s.heap.objs.size 0 .none := by
    have z := Heap.get?_push_size (s.heap.push ob) (o := { cls := .type "enumerate", data := .fields #[.none, .bool false, .ref s.heap.objs.size, rawInt 0, .none, .none] }) rfl
    rw [hz] at z
    exact z
  exact ⟨⟨_, he, rfl⟩, hq _ he (Heap.get?_push_of_some _ (Heap.get?_push_size _ B.free)) (by rw [Heap.size_push, hz]) fun b o z => Heap.get?_push_of_some _ (Heap.get?_push_of_some _ z)⟩
end
def ItU (K : PySem.W.Frag) (a : Addr) : It :=
  ⟨fun i H => ∃ (xs : List V) (x : V), SqT K H a xs ∧ xs[i]? = some x, fun i H v H' => ∃ T x, v = .ref T ∧ H T = none ∧ H' = upd H T (.tup [.int (i : Nat), x]) ∧ ∀ xs, SqT K H a xs → xs[i]? = some x, fun i H => ∃ xs : List V, SqT K H a xs ∧ xs.length = i⟩
theorem turn_enumU {P : Program} {w : World} {K : PySem.W.Frag} {elts : List Expr} {kk : Nat} {tpos : Pos} (a e it : Addr) (nea : a ≠ it) (nee : a ≠ e) :
    Turn P w K (.Tuple elts kk tpos) (ItU K a) [e, it] e (fun i h => (∃ old, IsEnum h e it ((i : Nat) : Int) old) ∧ h.IsTupleIter it a i ∧ e ≠ it) where
  mem := by simp
  obj := fun i h st b hb => by
    obtain ⟨⟨old, he⟩, ⟨o, ho, hc, hd⟩, _⟩ := st
    have e' : b = e ∨ b = it := by simpa using hb
    rcases e' with z | z
    · rw [z]; exact ⟨_, he, fun v q => nomatch q⟩
    · rw [z]; exact ⟨o, ho, fun v q => by rw [hd] at q; cases q⟩
  keep := fun i h h' st kp => let ⟨⟨old, he⟩, hi, hne⟩ := st; ⟨⟨old, kp e (by simp) _ he⟩, hi.at fun o q => kp it (by simp) o q, hne⟩
  item := by
    intro X hP hw hK hc i pins s σ H E I hf st hg
    subst hP hw hK
    obtain ⟨⟨old, he⟩, hit, hne⟩ := st
    obtain ⟨xs, x, hq, hx⟩ := hg
    obtain ⟨its, rv, pl, hz⟩ := I.tuple hq
    obtain ⟨u, hu, ru⟩ := rv.get hx
    have hel : e < s.heap.objs.size := Heap.lt_size he
    have hil : it < s.heap.objs.size := by obtain ⟨_, q, _⟩ := hit; exact Heap.lt_size q
    have hsz0 : i < its.toArray.size := by
      rw [List.size_toArray]
      exact (List.getElem?_eq_some_iff.mp hu).1
    have DD := Draws.tuple (prog := X.prog) (w := X.w) (A := X.A.in1) (show X.A.in1.handled = none from I.ok.hd hc) it a nea its.toArray
    refine wpAny_pyNext_enum_itemD DD he ⟨hit, show s.heap.IsTuple a its.toArray from pl⟩ hsz0 hne (by
      intro z
      have z' : e = it ∨ e = a := by simpa using z
      rcases z' with z' | z'
      · exact hne z'
      · exact nee z'.symm) fun x' h' tk hPx ho hst' hT hsz hk => ?_
    have ex : x' = u := by
      have h2 : its.toArray[i]? = some x' := hPx
      have h3 : its[i]? = some x' := by simpa using h2
      rw [hu] at h3
      exact (Option.some.inj h3).symm
    subst ex
    refine ⟨_, rfl, wpAny_letOwnedTupleGo_enum (s := { s with heap := h', toks := tk + 1 }) ho fun h'' he' sb => ?_⟩
    have hT2 : h''.get? s.heap.objs.size = some { cls := .type "tuple", data := .seq #[.int i tk, x'] } := (sb.2 _ (Nat.ne_of_gt hel)).trans hT
    have new : ObjOk X.prog X.w (upd H s.heap.objs.size (.tup [.int (i : Nat), x])) h'' s.heap.objs.size (.tup [.int (i : Nat), x]) :=
      ⟨by show 2 ≤ sizeLine; decide, [.int i tk, x'], .cons ⟨_, rfl⟩ (.cons ru .nil), ⟨_, hT2, rfl, _, rfl⟩⟩
    have I1 : Inv X pins σ (upd H s.heap.objs.size (.tup [.int (i : Nat), x])) { s with heap := h'', toks := tk + 1 } :=
      I.turnedNew (ch := [e, it]) (fun b ob hb q => (sb.2 b (fun z => hb (by simp [z]))).trans (hk b ob (fun z => hb (by simp [z])) (fun z => hb (by simp [z])) q)) hf (Nat.le_refl _) new
    refine ⟨.ref s.heap.objs.size, _, I1, rfl, ⟨_, x, rfl, I.hok.fresh (Nat.le_refl _), rfl, fun ys hy => by rw [I.tuple_inj hy hq]; exact hx⟩, ⟨⟨x', ?_⟩, hst'.1.at fun o q => (sb.2 it (Ne.symm hne)).trans q, hne⟩, fun b hb => ?_⟩
    · have e1 : ((i + 1 : Nat) : Int) = (i : Int) + 1 := by omega
      rw [e1]
      exact he'
    · have hb' : b < s.heap.objs.size := by
        have e' : b = e ∨ b = it := by simpa using hb
        rcases e' with z | z
        · rw [z]; exact hel
        · rw [z]; exact hil
      rw [upd_ne (Nat.ne_of_lt hb')]
      exact (hf b hb).1
  done := by
    intro X hP hw hK hc i pins s σ H E I hf st hg
    subst hP hw hK
    obtain ⟨⟨old, he⟩, hit, hne⟩ := st
    obtain ⟨xs, hq, hx⟩ := hg
    obtain ⟨its, rv, pl, hz⟩ := I.tuple hq
    obtain ⟨f0, f1, f2, f3, f4, f5⟩ := hf it (by simp)
    have hl := rv.length
    have DD := Draws.tuple (prog := X.prog) (w := X.w) (A := X.A.in1) (show X.A.in1.handled = none from I.ok.hd hc) it a nea its.toArray
    have en : its.toArray.size = i := by rw [List.size_toArray, ← hl, hx]
    refine wpAny_pyNext_enum_endD DD he (by rw [en]; exact ⟨hit, show s.heap.IsTuple a its.toArray from pl⟩) fun h' eb => ⟨rfl, I.turned (t' := s.toks) (fun b o hb q => eb b o hb q) f0 f1 f3 f4 f5⟩
  self := fun A i s Q E st h => let ⟨⟨_, he⟩, _⟩ := st; wpAny_pyIter_enum he h
def iEnumU (K : PySem.W.Frag) (ta : TA) : TI := fun σ H R => ta σ H fun vs H1 => ∃ a xs, vs = [.ref a] ∧ SqT K H1 a xs ∧ R (ItU K a) H1
theorem pi_enumU {X : Cx} {e : Expr} {ta : TA} {p pos tpos : Pos} {elts : List Expr} {kk : Nat} (hg : Gl X "enumerate") (hm : X.mg "enumerate" = none) (ha : PA X [e] ta) (hs : starEach [e] X.env = [(false, eval e X.env)]) :
    PI X (.Tuple elts kk tpos) (.Call (.Name "enumerate" p) [e] [] pos) (iEnumU X.K ta) := by
  refine ⟨fun pins s σ H R I h => ?_⟩
  refine Call_ (ld_blt I hg hm boot_enumerate (PyProof.Rows.callWith_type1 (thn (ha.run pos pins s σ H _ I h) fun us s1 ⟨vs, H1, I1, r1, q1⟩ => ?_) hs rfl))
  obtain ⟨a, xs, ex, hq, q⟩ := q1
  subst ex
  obtain ⟨u, rfl, ru⟩ := r1.one
  cases ru
  obtain ⟨its, rv, pl, hz⟩ := I1.tuple hq
  have hal : a < s1.heap.objs.size := by
    obtain ⟨o, ho, _⟩ := id pl
    exact Heap.lt_size ho
  refine callEnum (begins_tuple a its.toArray) (show s1.heap.IsTuple a its.toArray from pl) fun h' he hit hsz hk => wpAny_pyIter_enum he ?_
  have I2 : Inv X pins σ H1 { s1 with heap := h' } := I1.kept (t' := s1.toks) hk
  refine ⟨s1.heap.objs.size + 1, [s1.heap.objs.size + 1, s1.heap.objs.size], _, _, H1, rfl, I2, turn_enumU a (s1.heap.objs.size + 1) s1.heap.objs.size (Nat.ne_of_lt hal) (Nat.ne_of_lt (Nat.lt_succ_of_lt hal)), ⟨⟨.none, he⟩, ⟨_, hit, rfl, rfl⟩, Nat.succ_ne_self _⟩, fun b hb => ?_, q⟩
  have e' : b = s1.heap.objs.size + 1 ∨ b = s1.heap.objs.size := by simpa using hb
  have hle : s1.heap.objs.size ≤ b := by
    rcases e' with z | z
    · rw [z]; exact Nat.le_add_right _ _
    · rw [z]; exact Nat.le_refl _
  exact I1.fpOk hle (I1.hok.fresh hle)
section
variable {X : Cx} {Γ : Sl} {M : Mem} {a b : Expr} {body : List Stmt} {Ψ : Po} {pos p pos2 tpos : Pos} {elts : List Expr} {kk : Nat}
/-- for i, x in enumerate(a tuple) -/
theorem w1_forEU (hp : PassesOwn (model X.prog X.w) X.A X.env X.xe) (hc : X.calm = true) (hg : Gl X "enumerate") (hm : X.mg "enumerate" = none)
    (h : WA X Γ M [a] fun ds M1 => ∃ (Iv : Nat → Sl → Mem → Prop) (xs : List D), ds = [.tup xs] ∧ Iv 0 Γ M1 ∧ (∀ (i : Nat) (y : D) Γ' M', xs[i]? = some y → Iv i Γ' M' → GD X Γ' M' (.Tuple elts kk tpos) (.tup [.int (i : Int), y]) fun Γ2 M2 => WS X Γ2 M2 body { Ψ with nx := Iv (i + 1), ct := Iv (i + 1), bk := Ψ.nx }) ∧ ∀ Γ' M', Iv xs.length Γ' M' → Ψ.nx Γ' M')
    (hs : starEach [a] X.env = [(false, eval a X.env)] := by rfl) (hf : ∀ x, foldedSetIterable (.Call (.Name "enumerate" p) [a] [] pos2) X.env x = pure x := by intro _; rfl) : W1 X Γ M (.For (.Tuple elts kk tpos) (.Call (.Name "enumerate" p) [a] [] pos2) body [] pos) Ψ := fun P σ H s m =>
  wpS_of (ps_for hp hc (pi_enumU hg hm pa_wp hs) pg_wp pss_wp hf) ((h P σ H s m).mono fun vs H1 ⟨ds, M1, P1, ⟨Iv, xs, ed, hI, hstep, hdone⟩, e1, m1, i1⟩ => by
    subst ed
    obtain ⟨v, rfl, hv⟩ := i1.un1
    cases hv with
    | @tup l vs _ hq hl hi =>
      refine ⟨l, vs, rfl, Same.tupS m1.ex hq, fun i n σ' H' => n = xs.length - i ∧ i ≤ xs.length ∧ FinS X.K P1 (Iv i) σ' H', ⟨xs.length, rfl, Nat.zero_le _, Γ, M1, P1, hI, Same.refl P1, s.mono e1, m1⟩, ?_⟩
      rintro i n σ' H' ⟨rfl, hin, Γ', M', P', hI', e', s', m'⟩
      have hqq : SqT X.K H' l vs := Same.tupS m'.ex (Same.tupS e' hq)
      by_cases hlt : i < xs.length
      · have hx : vs[i]? = some (vs[i]'(by rw [hl]; exact hlt)) := List.getElem?_eq_getElem _
        obtain ⟨y, hy, iy⟩ := IsDs.getV (K := X.K) (P := P1) ⟨hl, hi⟩ hx
        refine .inr ⟨⟨vs, _, hqq, hx⟩, FinS X.K P1 (Iv (i + 1)), fun σ2 H2 z => ⟨xs.length - (i + 1), by omega, rfl, hlt, z⟩, fun x0 H2 ⟨T, x1, e0, hT, eH, hz⟩ => ?_⟩
        subst e0 eH
        have ex : x1 = vs[i]'(by rw [hl]; exact hlt) := Option.some.inj ((hz vs hqq).symm.trans hx)
        subst ex
        obtain ⟨m2, e2⟩ := m'.push (o := .tup [.int (i : Int), vs[i]'(by rw [hl]; exact hlt)]) hT
        refine (hstep i y Γ' M' hy hI' (upd P' T (.tup [.int (i : Int), vs[i]'(by rw [hl]; exact hlt)])) σ' _ (.ref T) (s'.mono e2) m2 (.tup (SqT.of upd_same) rfl (IsDs.cons .int (.cons (iy.mono (e'.trans e2)) .nil)).2)).mono fun σ2 H2 ⟨Γ2, M2, P2, q, e3, s2, mm2⟩ => (q P2 σ2 H2 s2 mm2).mono ?_
        exact ⟨fun _ _ z => z.up (e'.trans (e2.trans e3)), fun _ _ z => z.up (e1.trans (e'.trans (e2.trans e3))), fun _ _ z => z.up (e1.trans (e'.trans (e2.trans e3))), fun _ _ z => z.up (e'.trans (e2.trans e3))⟩
      · have ei : i = xs.length := by omega
        subst ei
        exact .inl ⟨⟨vs, hqq, hl⟩, Γ', M', P', hdone Γ' M' hI', e1.trans e', s', m'⟩)
/-- for a, b in zip(two tuples of one length) -/
theorem w1_forZU (hp : PassesOwn (model X.prog X.w) X.A X.env X.xe) (hc : X.calm = true) (hg : Gl X "zip") (hm : X.mg "zip" = none)
    (h : WA X Γ M [a, b] fun ds M1 => ∃ (Iv : Nat → Sl → Mem → Prop) (xs ys : List D), ds = [.tup xs, .tup ys] ∧ xs.length = ys.length ∧ Iv 0 Γ M1 ∧ (∀ (i : Nat) (x y : D) Γ' M', xs[i]? = some x → ys[i]? = some y → Iv i Γ' M' → GD X Γ' M' (.Tuple elts kk tpos) (.tup [x, y]) fun Γ2 M2 => WS X Γ2 M2 body { Ψ with nx := Iv (i + 1), ct := Iv (i + 1), bk := Ψ.nx }) ∧ ∀ Γ' M', Iv xs.length Γ' M' → Ψ.nx Γ' M')
    (hs : starEach [a, b] X.env = (false, eval a X.env) :: starEach [b] X.env := by rfl) (hpl : (backTo pos2 (starEach [b] X.env)).any (·.1) = false := by rfl) (hf : ∀ x, foldedSetIterable (.Call (.Name "zip" p) [a, b] [] pos2) X.env x = pure x := by intro _; rfl) : W1 X Γ M (.For (.Tuple elts kk tpos) (.Call (.Name "zip" p) [a, b] [] pos2) body [] pos) Ψ := fun P σ H s m =>
  wpS_of (ps_for hp hc (RZ.pi_zipA hg hm pa_wp hs hpl) pg_wp pss_wp hf) ((h P σ H s m).mono fun vs H1 ⟨ds, M1, P1, ⟨Iv, xs, ys, ed, hxy, hI, hstep, hdone⟩, e1, m1, i1⟩ => by
    subst ed
    obtain ⟨v, v2, rfl, hv, hv2⟩ := i1.un2
    cases hv with
    | @tup l vs _ hq hl hi =>
      cases hv2 with
      | @tup l2 vs2 _ hq2 hl2 hi2 =>
        refine ⟨l, l2, vs, vs2, rfl, .inr ⟨Same.tupS m1.ex hq, Same.tupS m1.ex hq2, RZ.for_zipT (K := X.K) (a := l) (b := l2) (xs := vs) (ys := vs2) (by rw [hl, hl2, hxy]) (fun i => FinS X.K P1 (Iv i)) ⟨Γ, M1, P1, hI, Same.refl P1, s.mono e1, m1⟩
          (fun i σ' H' ⟨Γ', M', P', _, e', _, m'⟩ => ⟨Same.tupS m'.ex (Same.tupS e' hq), Same.tupS m'.ex (Same.tupS e' hq2)⟩) ?_ ?_⟩⟩
        · rintro i x y T σ' H' hx hy ⟨Γ', M', P', hI', e', s', m'⟩ hT
          obtain ⟨dx, hdx, ix⟩ := IsDs.getV (K := X.K) (P := P1) ⟨hl, hi⟩ hx
          obtain ⟨dy, hdy, iy⟩ := IsDs.getV (K := X.K) (P := P1) ⟨hl2, hi2⟩ hy
          obtain ⟨m2, e2⟩ := m'.push (o := .tup [x, y]) hT
          refine (hstep i dx dy Γ' M' hdx hdy hI' (upd P' T (.tup [x, y])) σ' _ (.ref T) (s'.mono e2) m2 (.tup (SqT.of upd_same) rfl (IsDs.cons (ix.mono (e'.trans e2)) (.cons (iy.mono (e'.trans e2)) .nil)).2)).mono fun σ2 H2 ⟨Γ2, M2, P2, q, e3, s2, mm2⟩ => (q P2 σ2 H2 s2 mm2).mono ?_
          exact ⟨fun _ _ z => z.up (e'.trans (e2.trans e3)), fun _ _ z => z.up (e1.trans (e'.trans (e2.trans e3))), fun _ _ z => z.up (e1.trans (e'.trans (e2.trans e3))), fun _ _ z => z.up (e'.trans (e2.trans e3))⟩
        · rintro σ' H' ⟨Γ', M', P', hI', e', s', m'⟩
          exact ⟨Γ', M', P', hdone Γ' M' (by rw [← hl]; exact hI'), e1.trans e', s', m'⟩)
end
end Dt

set_option Elab.async false
set_option linter.all false
set_option maxRecDepth 100000
set_option maxHeartbeats 2000000
/-! Dt, part 7: small rules for the walks. -/
namespace Dt
open PySem PySem.Spec PyProof.Rows L2
theorem lk_here {f : Str} {v : D} {r : List (Str × D)} : ((f, v) :: r).lookup f = some v := by simp
theorem lk_there {f g : Str} {w : D} {r : List (Str × D)} {o : Option D} (h : (f == g) = false) (q : r.lookup f = o) : ((g, w) :: r).lookup f = o := by
  rw [List.lookup_cons, h]
  exact q
theorem lk_nil {f : Str} : ([] : List (Str × D)).lookup f = none := rfl
theorem put_nil {f : Str} {d : D} : putD f d [] = [(f, d)] := rfl
theorem put_there {f g : Str} {d e : D} {r r' : List (Str × D)} (h : ¬ g = f) (q : putD f d r = r') : putD f d ((g, e) :: r) = (g, e) :: r' := by
  unfold putD
  rw [if_neg h, q]
section
variable {X : Cx} {Γ : Sl} {M : Mem} {Φ : VP} {a b c : Expr} {pos : Pos} {B : Bool → Mem → Prop}
/-- not x as a value -/
theorem wnotv (h : WE X Γ M a fun d M1 => TrD X d M1 fun k M2 => Φ (.bl (!k)) M2) : WE X Γ M (.UnaryOp .Not a pos) Φ := fun P σ H s m pins sh I =>
  UnaryOp_ (thn (h P σ H s m pins sh I) fun v s1 ⟨x, H1, I1, r1, d, M1, P1, q, e1, m1, i1⟩ => not_of (thn (q P1 H1 x m1 i1 pins σ s1 v I1 r1) fun c s2 ⟨H2, I2, M2, P2, q2, e2, m2⟩ => ⟨.bl (!c), H2, I2, rfl, _, M2, P2, q2, e1.trans e2, m2, .bl⟩))
theorem wt_chain {op op' : CmpOp} (h : WE X Γ M a fun x M1 => WE X Γ M1 b fun y M2 => OpD X (compareOp op) x y M2 fun d M3 => ∃ k, d = .bl k ∧ (k = true → WE X Γ M3 c fun z M4 => OpD X (compareOp op') y z M4 fun d M5 => ∃ k, d = .bl k ∧ B k M5) ∧ (k = false → B false M3))
    (hq : PT X (.Compare a [op, op'] [b, c] pos) (tTest (tChain (opT X (compareOp op)) (opT X (compareOp op')) (wpT X a) (wpT X b) (wpT X c))) := by exact pt_chain op_wp op_wp pe_wp pe_wp pe_wp) : WT X Γ M (.Compare a [op, op'] [b, c] pos) B := fun P σ H s m =>
  wpB_of hq ((h P σ H s m).mono fun v H1 ⟨d, M1, P1, q, e1, m1, i1⟩ => (q P1 σ H1 (s.mono e1) m1).mono fun u H2 ⟨d2, M2, P2, q2, e2, m2, i2⟩ => (q2 P2 H2 v u m2 (i1.mono e2) i2).mono fun w H3 ⟨d3, M3, P3, ⟨k, ek, qt, qf⟩, e3, m3, i3⟩ => by
    subst ek
    cases i3
    refine ⟨k, rfl, ?_⟩
    cases k with
    | true => exact iteT ((qt rfl P3 σ H3 (s.mono ((e1.trans e2).trans e3)) m3).mono fun w' H4 ⟨d4, M4, P4, q4, e4, m4, i4⟩ => (q4 P4 H4 u w' m4 ((i2.mono e3).mono e4) i4).mono fun w5 H5 ⟨d5, M5, P5, ⟨k5, ek5, q5⟩, e5, m5, i5⟩ => by
        subst ek5
        cases i5
        exact ⟨k5, rfl, M5, P5, q5, (((e1.trans e2).trans e3).trans e4).trans e5, m5⟩)
    | false => exact iteF ⟨false, rfl, M3, P3, qf rfl, (e1.trans e2).trans e3, m3⟩)
end
/-! ### the rules in short -/
section
variable {X : Cx} {Γ : Sl} {M : Mem} {Φ : VP} {Ψ : Po} {e o : Expr} {es : List Expr} {pos p apos : Pos} {k : Nat} {x : Str} {S : DS}
theorem wcB {id : String} (hm : X.mg x = none) (hv : bootBuiltins x = some (.builtin id)) (h : WA X Γ M (e :: es) fun ds M1 => CaD X (.builtin id) ds M1 Φ) (hg : Gl X x := by rfl) (hn : x ≠ "__name__" := by decide) (hdb : (x == ("__debug__" : Str)) = false := by decide)
    (he : starEach (e :: es) X.env = (false, eval e X.env) :: starEach es X.env := by rfl) (hpl : (backTo pos (starEach es X.env)).any (·.1) = false := by rfl) : WE X Γ M (.Call (.Name x p) (e :: es) [] pos) Φ :=
  we_callB hg hm hv hn hdb h (pe_callB ca_wp hg hm hv pa_wp hn hdb he hpl)
theorem wcT {T : String} (hm : X.mg x = none) (hv : bootBuiltins x = some (.type T)) (h : WA X Γ M (e :: es) fun ds M1 => CaD X (.type T) ds M1 Φ) (hg : Gl X x := by rfl) (hn : x ≠ "__name__" := by decide) (hdb : (x == ("__debug__" : Str)) = false := by decide)
    (he : starEach (e :: es) X.env = (false, eval e X.env) :: starEach es X.env := by rfl) (hpl : (backTo pos (starEach es X.env)).any (·.1) = false := by rfl) : WE X Γ M (.Call (.Name x p) (e :: es) [] pos) Φ :=
  we_callTy hg hm hv hn hdb h (pe_callTy ca_wp hg hm hv pa_wp hn hdb he hpl)
theorem wbt {n : String} (hm : X.mg x = none) (hv : bootBuiltins x = some (.type n)) (h : Φ (.ty n) M) (hg : Gl X x := by rfl) (hn : x ≠ "__name__" := by decide) (hd : (x == ("__debug__" : Str)) = false := by decide) : WE X Γ M (.Name x pos) Φ := we_bty hg hm hv hn hd h
theorem wgl {a : Addr} (hm : X.mg x = some (.ref a)) (h : Φ (.adr a) M) (hg : Gl X x := by rfl) (hd : (x == ("__debug__" : Str)) = false := by decide) : WE X Γ M (.Name x pos) Φ := we_glob hg hm hd h
theorem wcf (F : HasFn X.prog X.w X.K X.mg X.base k x S) (hr : Room k X.A) (h : WA X Γ M (e :: es) fun ds M1 => S ds M1 Φ) (hg : Gl X x := by rfl) (hdb : (x == ("__debug__" : Str)) = false := by decide) (he : starEach (e :: es) X.env = (false, eval e X.env) :: starEach es X.env := by rfl)
    (hpl : (backTo pos (starEach es X.env)).any (·.1) = false := by rfl) : WE X Γ M (.Call (.Name x p) (e :: es) [] pos) Φ := we_call F hr hg h hdb he hpl
theorem wmk {C : Addr} (F : HasMk X.prog X.w X.K X.mg X.base k C x S) (hr : Room (k + 1) X.A) (h : WA X Γ M (e :: es) fun ds M1 => ∀ l, S (.adr l :: ds) ((l, .ins C []) :: M1) fun r M2 => r = .non ∧ ∃ fs M3, M2 = (l, .ins C fs) :: M3 ∧ Φ (.obj C fs) M3)
    (hg : Gl X x := by rfl) (hdb : (x == ("__debug__" : Str)) = false := by decide) (he : starEach (e :: es) X.env = (false, eval e X.env) :: starEach es X.env := by rfl) (hpl : (backTo pos (starEach es X.env)).any (·.1) = false := by rfl) : WE X Γ M (.Call (.Name x p) (e :: es) [] pos) Φ := we_makeF F hr hg h hdb he hpl
theorem wme {m : Str} {C : Addr} (F : HasMe X.prog X.w X.K X.mg X.base k C m S) (hr : Room k X.A) (c : Cls X.K C) (h : WE X Γ M o fun d M1 => (∃ fs, ObjD M1 d C fs ∧ fs.lookup m = none) ∧ WA X Γ M1 (e :: es) fun ds M2 => S (d :: ds) M2 Φ)
    {pl : Sem Bool} (hst : starEach (e :: es) X.env = (false, eval e X.env) :: starEach es X.env := by rfl) (hpl : (backTo pos (starEach es X.env)).any (·.1) = false := by rfl)
    (ht : eval (.Call (.Attribute o m apos) (e :: es) [] pos) X.env = (do
      let ov ← eval o X.env
      standAt apos.atName
      let (f, first) ← holding [ov] (getMethod ov m pl)
      callWith pos f first (backTo pos (starEach (e :: es) X.env)) (backToKw pos (keywordEach [] X.env))) := by rfl) : WE X Γ M (.Call (.Attribute o m apos) (e :: es) [] pos) Φ := we_meth F hr c h hst hpl ht
theorem wme0 {m : Str} {C : Addr} (F : HasMe X.prog X.w X.K X.mg X.base k C m S) (hr : Room k X.A) (c : Cls X.K C) (h : WE X Γ M o fun d M1 => (∃ fs, ObjD M1 d C fs ∧ fs.lookup m = none) ∧ S [d] M1 Φ)
    {pl : Sem Bool} (ht : eval (.Call (.Attribute o m apos) [] [] pos) X.env = (do
      let ov ← eval o X.env
      standAt apos.atName
      let (f, first) ← holding [ov] (getMethod ov m pl)
      callWith pos f first (backTo pos (starEach [] X.env)) (backToKw pos (keywordEach [] X.env))) := by rfl) : WE X Γ M (.Call (.Attribute o m apos) [] [] pos) Φ := we_meth0 F hr c h ht
end
/-- the built-in names that the module leaves alone -/
structure Bf (mg : Str → Option Value) : Prop where
  len : mg "len" = none
  all : mg "all" = none
  any : mg "any" = none
  isi : mg "isinstance" = none
  int : mg "int" = none
  bool : mg "bool" = none
  str : mg "str" = none
  tuple : mg "tuple" = none
  list : mg "list" = none
  range : mg "range" = none
  enum : mg "enumerate" = none
  zip : mg "zip" = none
  abs : mg "abs" = none
  max : mg "max" = none
  min : mg "min" = none
  sum : mg "sum" = none
  sorted : mg "sorted" = none
  repr : mg "repr" = none
  set : mg "set" = none
theorem bt_all : bootBuiltins "all" = some (.builtin "all") := by decide +kernel
theorem bt_any : bootBuiltins "any" = some (.builtin "any") := by decide +kernel
theorem bt_sum : bootBuiltins "sum" = some (.builtin "sum") := by decide +kernel
/-! ### comprehensions by a function -/
section
variable {X : Cx} {Γ : Sl} {M : Mem} {Φ : VP} {elt iter : Expr} {scope : Scope} {own : List (Str × Nat)} {pos : Pos}
/-- [elt for x in lst ..], each item's element told by a function of the item's data -/
theorem lcMapL {x : Str} {px : Pos} {j : Nat} (hN : X.N.Nodup) (h : WE X Γ M iter fun d M1 => ∃ (xs : List D) (g : D → D), d = .lst xs ∧ xs.length < sizeLine ∧ (∀ (i : Nat) (y : D), xs[i]? = some y → ∀ l out s H C cl fp, WE (blkOf X scope s H C cl fp) ((wipeD Γ (own.map (·.2))).set j (some y)) ((l, .lst out) :: M1) elt fun z M2 => z = g y ∧ M2 = (l, .lst out) :: M1) ∧ Φ (.lst (xs.map g)) M1)
    (ok : BlkOk X.N X.env.scope scope own) (hg : ∀ (s : Shared) (H : Hp) (C : Addr) (cl : List (Str × Addr)) (fp : List Addr), PG (X.blk s H scope (compEnvC scope cl C X.env) fp) (.Name x px) (gName j)) (hj : j ∈ own.map (·.2) := by decide) (hc : X.calm = true := by rfl)
    (hs : ∀ x, foldedSetIterable iter X.env x = pure x := by intro _; rfl) : WE X Γ M (.ListComp elt [⟨.Name x px, iter, [], 0⟩] scope pos) Φ := by
  refine we_frz (we_lcL hN (h.mono fun d M1 ⟨xs, g, hd, hl, hstep, q⟩ => ⟨fun i out M' => out = (xs.take i).map g ∧ M' = M1, xs, hd, ⟨rfl, rfl⟩, ?_, ?_⟩) hj ok hc hg hs)
  · rintro i y l out M' hy ⟨rfl, rfl⟩ s H C cl fp
    refine wts_nil ⟨fun _ s H C cl fp => (hstep i y hy l _ s H C cl fp).mono fun z M2 ⟨hz, hM⟩ => ⟨_, hM, ?_, ?_, rfl⟩, fun z => by cases z⟩
    · rw [List.length_map, List.length_take]
      omega
    · rw [List.take_add_one, hy, List.map_append, hz]
      rfl
  · rintro l out M' ⟨rfl, rfl⟩
    refine ⟨l, _, _, rfl, rfl, ?_⟩
    rw [List.take_length]
    exact q
/-- [elt for x in lst if test] -/
theorem lcMapLF {x : Str} {px : Pos} {j : Nat} {test : Expr} (hN : X.N.Nodup) (h : WE X Γ M iter fun d M1 => ∃ (xs : List D) (p : D → Bool) (g : D → D), d = .lst xs ∧ xs.length < sizeLine ∧ (∀ (i : Nat) (y : D), xs[i]? = some y → ∀ l out s H C cl fp, WT (blkOf X scope s H C cl fp) ((wipeD Γ (own.map (·.2))).set j (some y)) ((l, .lst out) :: M1) test fun k M2 => k = p y ∧ M2 = (l, .lst out) :: M1) ∧
      (∀ (i : Nat) (y : D), xs[i]? = some y → p y = true → ∀ l out s H C cl fp, WE (blkOf X scope s H C cl fp) ((wipeD Γ (own.map (·.2))).set j (some y)) ((l, .lst out) :: M1) elt fun z M2 => z = g y ∧ M2 = (l, .lst out) :: M1) ∧ Φ (.lst ((xs.filter p).map g)) M1)
    (ok : BlkOk X.N X.env.scope scope own) (hg : ∀ (s : Shared) (H : Hp) (C : Addr) (cl : List (Str × Addr)) (fp : List Addr), PG (X.blk s H scope (compEnvC scope cl C X.env) fp) (.Name x px) (gName j)) (hj : j ∈ own.map (·.2) := by decide) (hc : X.calm = true := by rfl)
    (hs : ∀ x, foldedSetIterable iter X.env x = pure x := by intro _; rfl) : WE X Γ M (.ListComp elt [⟨.Name x px, iter, [test], 0⟩] scope pos) Φ := by
  refine we_frz (we_lcL hN (h.mono fun d M1 ⟨xs, p, g, hd, hl, htest, hstep, q⟩ => ⟨fun i out M' => out = ((xs.take i).filter p).map g ∧ M' = M1, xs, hd, ⟨rfl, rfl⟩, ?_, ?_⟩) hj ok hc hg hs)
  · rintro i y l out M' hy ⟨rfl, rfl⟩ s H C cl fp
    have ht : xs.take (i + 1) = xs.take i ++ [y] := by
      rw [List.take_add_one, hy]
      rfl
    refine wts_one ((htest i y hy l _ s H C cl fp).mono fun k M2 ⟨hk, hM⟩ => ?_)
    subst hk hM
    refine ⟨fun hp s H C cl fp => (hstep i y hy hp l _ s H C cl fp).mono fun z M2 ⟨hz, hM⟩ => ⟨_, hM, ?_, ?_, rfl⟩, fun hp => ⟨_, rfl, ?_, rfl⟩⟩
    · rw [List.length_map]
      have h1 := List.length_filter_le p (xs.take i)
      rw [List.length_take] at h1
      omega
    · rw [ht, List.filter_append, List.map_append, hz, List.filter_cons, if_pos hp]
      rfl
    · rw [ht, List.filter_append, List.filter_cons, if_neg (by rw [hp]; decide)]
      simp
  · rintro l out M' ⟨rfl, rfl⟩
    refine ⟨l, _, _, rfl, rfl, ?_⟩
    rw [List.take_length]
    exact q
/-- [elt for x in tup ..], each item's element told by a function of the item's data -/
theorem lcMapT {x : Str} {px : Pos} {j : Nat} (hN : X.N.Nodup) (h : WE X Γ M iter fun d M1 => ∃ (xs : List D) (g : D → D), d = .tup xs ∧ xs.length < sizeLine ∧ (∀ (i : Nat) (y : D), xs[i]? = some y → ∀ l out s H C cl fp, WE (blkOf X scope s H C cl fp) ((wipeD Γ (own.map (·.2))).set j (some y)) ((l, .lst out) :: M1) elt fun z M2 => z = g y ∧ M2 = (l, .lst out) :: M1) ∧ Φ (.lst (xs.map g)) M1)
    (ok : BlkOk X.N X.env.scope scope own) (hg : ∀ (s : Shared) (H : Hp) (C : Addr) (cl : List (Str × Addr)) (fp : List Addr), PG (X.blk s H scope (compEnvC scope cl C X.env) fp) (.Name x px) (gName j)) (hj : j ∈ own.map (·.2) := by decide) (hc : X.calm = true := by rfl)
    (hs : ∀ x, foldedSetIterable iter X.env x = pure x := by intro _; rfl) : WE X Γ M (.ListComp elt [⟨.Name x px, iter, [], 0⟩] scope pos) Φ := by
  refine we_frz (we_lcT hN (h.mono fun d M1 ⟨xs, g, hd, hl, hstep, q⟩ => ⟨fun i out M' => out = (xs.take i).map g ∧ M' = M1, xs, hd, ⟨rfl, rfl⟩, ?_, ?_⟩) hj ok hc hg hs)
  · rintro i y l out M' hy ⟨rfl, rfl⟩ s H C cl fp
    refine wts_nil ⟨fun _ s H C cl fp => (hstep i y hy l _ s H C cl fp).mono fun z M2 ⟨hz, hM⟩ => ⟨_, hM, ?_, ?_, rfl⟩, fun z => by cases z⟩
    · rw [List.length_map, List.length_take]
      omega
    · rw [List.take_add_one, hy, List.map_append, hz]
      rfl
  · rintro l out M' ⟨rfl, rfl⟩
    refine ⟨l, _, _, rfl, rfl, ?_⟩
    rw [List.take_length]
    exact q
/-- [elt for x in tup if test] -/
theorem lcMapTF {x : Str} {px : Pos} {j : Nat} {test : Expr} (hN : X.N.Nodup) (h : WE X Γ M iter fun d M1 => ∃ (xs : List D) (p : D → Bool) (g : D → D), d = .tup xs ∧ xs.length < sizeLine ∧ (∀ (i : Nat) (y : D), xs[i]? = some y → ∀ l out s H C cl fp, WT (blkOf X scope s H C cl fp) ((wipeD Γ (own.map (·.2))).set j (some y)) ((l, .lst out) :: M1) test fun k M2 => k = p y ∧ M2 = (l, .lst out) :: M1) ∧
      (∀ (i : Nat) (y : D), xs[i]? = some y → p y = true → ∀ l out s H C cl fp, WE (blkOf X scope s H C cl fp) ((wipeD Γ (own.map (·.2))).set j (some y)) ((l, .lst out) :: M1) elt fun z M2 => z = g y ∧ M2 = (l, .lst out) :: M1) ∧ Φ (.lst ((xs.filter p).map g)) M1)
    (ok : BlkOk X.N X.env.scope scope own) (hg : ∀ (s : Shared) (H : Hp) (C : Addr) (cl : List (Str × Addr)) (fp : List Addr), PG (X.blk s H scope (compEnvC scope cl C X.env) fp) (.Name x px) (gName j)) (hj : j ∈ own.map (·.2) := by decide) (hc : X.calm = true := by rfl)
    (hs : ∀ x, foldedSetIterable iter X.env x = pure x := by intro _; rfl) : WE X Γ M (.ListComp elt [⟨.Name x px, iter, [test], 0⟩] scope pos) Φ := by
  refine we_frz (we_lcT hN (h.mono fun d M1 ⟨xs, p, g, hd, hl, htest, hstep, q⟩ => ⟨fun i out M' => out = ((xs.take i).filter p).map g ∧ M' = M1, xs, hd, ⟨rfl, rfl⟩, ?_, ?_⟩) hj ok hc hg hs)
  · rintro i y l out M' hy ⟨rfl, rfl⟩ s H C cl fp
    have ht : xs.take (i + 1) = xs.take i ++ [y] := by
      rw [List.take_add_one, hy]
      rfl
    refine wts_one ((htest i y hy l _ s H C cl fp).mono fun k M2 ⟨hk, hM⟩ => ?_)
    subst hk hM
    refine ⟨fun hp s H C cl fp => (hstep i y hy hp l _ s H C cl fp).mono fun z M2 ⟨hz, hM⟩ => ⟨_, hM, ?_, ?_, rfl⟩, fun hp => ⟨_, rfl, ?_, rfl⟩⟩
    · rw [List.length_map]
      have h1 := List.length_filter_le p (xs.take i)
      rw [List.length_take] at h1
      omega
    · rw [ht, List.filter_append, List.map_append, hz, List.filter_cons, if_pos hp]
      rfl
    · rw [ht, List.filter_append, List.filter_cons, if_neg (by rw [hp]; decide)]
      simp
  · rintro l out M' ⟨rfl, rfl⟩
    refine ⟨l, _, _, rfl, rfl, ?_⟩
    rw [List.take_length]
    exact q
end
end Dt

set_option Elab.async false
set_option linter.all false
set_option maxRecDepth 100000
set_option maxHeartbeats 2000000
/-! Dt, part 8: loops over short written things, turn by turn. -/
namespace Dt
open PySem PySem.Spec PyProof.Rows L2
/-- a loop's turns, one behind the other -/
def Unr (X : Cx) (tg : Expr) (body : List Stmt) (Ψ : Po) : List D → Sl → Mem → Prop
  | [], Γ, M => Ψ.nx Γ M
  | x :: r, Γ, M => GD X Γ M tg x fun Γ2 M2 => WS X Γ2 M2 body { Ψ with nx := Unr X tg body Ψ r, ct := Unr X tg body Ψ r, bk := Ψ.nx }
section
variable {X : Cx} {Γ : Sl} {M : Mem} {tg it a b : Expr} {body sts : List Stmt} {Ψ : Po} {pos p pos2 tpos : Pos} {elts : List Expr} {kk : Nat}
theorem unr_step {xs : List D} {i : Nat} {y : D} (h : xs[i]? = some y) {Γ' : Sl} {M' : Mem} (q : Unr X tg body Ψ (xs.drop i) Γ' M') : GD X Γ' M' tg y fun Γ2 M2 => WS X Γ2 M2 body { Ψ with nx := Unr X tg body Ψ (xs.drop (i + 1)), ct := Unr X tg body Ψ (xs.drop (i + 1)), bk := Ψ.nx } := by
  obtain ⟨hi, e⟩ := List.getElem?_eq_some_iff.mp h
  have e2 : xs.drop i = y :: xs.drop (i + 1) := by rw [List.drop_eq_getElem_cons hi, e]
  rw [e2] at q
  exact q
theorem unr_end {xs : List D} {Γ' : Sl} {M' : Mem} (q : Unr X tg body Ψ (xs.drop xs.length) Γ' M') : Ψ.nx Γ' M' := by
  rw [List.drop_length] at q
  exact q
theorem wu_T (hp : PassesOwn (model X.prog X.w) X.A X.env X.xe) (h : WE X Γ M it fun d M1 => ∃ xs : List D, d = .tup xs ∧ Unr X tg body { Ψ with nx := fun Γ' M' => WS X Γ' M' sts Ψ } xs Γ M1) (hc : X.calm = true := by rfl) (hf : ∀ x, foldedSetIterable it X.env x = pure x := by intro _; rfl) : WS X Γ M (.For tg it body [] pos :: sts) Ψ :=
  ws_cons (w1_forT hp hc (h.mono fun d M1 ⟨xs, ed, q⟩ => ⟨fun i => Unr X tg body { Ψ with nx := fun Γ' M' => WS X Γ' M' sts Ψ } (xs.drop i), xs, ed, q, fun i y Γ' M' hy z => unr_step hy z, fun Γ' M' z => unr_end z⟩) hf)
theorem wu_L (hp : PassesOwn (model X.prog X.w) X.A X.env X.xe) (h : WE X Γ M it fun d M1 => ∃ xs : List D, d = .lst xs ∧ Unr X tg body { Ψ with nx := fun Γ' M' => WS X Γ' M' sts Ψ } xs Γ M1) (hc : X.calm = true := by rfl) (hf : ∀ x, foldedSetIterable it X.env x = pure x := by intro _; rfl) : WS X Γ M (.For tg it body [] pos :: sts) Ψ :=
  ws_cons (w1_forL hp hc (h.mono fun d M1 ⟨xs, ed, q⟩ => ⟨fun i => Unr X tg body { Ψ with nx := fun Γ' M' => WS X Γ' M' sts Ψ } (xs.drop i), xs, ed, q, fun i y Γ' M' hy z => unr_step hy z, fun Γ' M' z => unr_end z⟩) hf)
/-- the items of enumerate, of zip -/
def enumD : Nat → List D → List D
  | _, [] => []
  | n, x :: r => .tup [.int (n : Int), x] :: enumD (n + 1) r
def zipD : List D → List D → List D
  | x :: r, y :: q => .tup [x, y] :: zipD r q
  | _, _ => []
theorem enumD_get : ∀ (xs : List D) (n i : Nat) (y : D), xs[i]? = some y → (enumD n xs)[i]? = some (.tup [.int ((n + i : Nat) : Int), y])
  | [], n, i, y, h => by simp at h
  | x :: r, n, 0, y, h => by
    simp only [List.getElem?_cons_zero, Option.some.injEq] at h
    subst h
    rfl
  | x :: r, n, i + 1, y, h => by
    have ih := enumD_get r (n + 1) i y (by simpa using h)
    show (enumD (n + 1) r)[i]? = _
    rw [ih]
    have e : n + 1 + i = n + (i + 1) := by omega
    rw [e]
theorem enumD_len : ∀ (n : Nat) (xs : List D), (enumD n xs).length = xs.length
  | _, [] => rfl
  | n, x :: r => by
    show (enumD (n + 1) r).length + 1 = r.length + 1
    rw [enumD_len]
theorem zipD_get : ∀ (xs ys : List D) (i : Nat) (x y : D), xs[i]? = some x → ys[i]? = some y → (zipD xs ys)[i]? = some (.tup [x, y])
  | [], _, i, x, y, h, _ => by simp at h
  | _ :: _, [], i, x, y, _, h => by simp at h
  | a :: r, b :: q, 0, x, y, h, h2 => by
    simp only [List.getElem?_cons_zero, Option.some.injEq] at h h2
    subst h h2
    rfl
  | a :: r, b :: q, i + 1, x, y, h, h2 => zipD_get r q i x y (by simpa using h) (by simpa using h2)
theorem zipD_len : ∀ (xs ys : List D), xs.length = ys.length → (zipD xs ys).length = xs.length
  | [], [], _ => rfl
  | [], _ :: _, h => by simp at h
  | _ :: _, [], h => by simp at h
  | a :: r, b :: q, h => by
    show (zipD r q).length + 1 = r.length + 1
    rw [zipD_len r q (by simpa using h)]
theorem wu_E (hp : PassesOwn (model X.prog X.w) X.A X.env X.xe) (hm : X.mg "enumerate" = none) (h : WA X Γ M [a] fun ds M1 => ∃ xs : List D, ds = [.tup xs] ∧ Unr X (.Tuple elts kk tpos) body { Ψ with nx := fun Γ' M' => WS X Γ' M' sts Ψ } (enumD 0 xs) Γ M1) (hc : X.calm = true := by rfl) (hg : Gl X "enumerate" := by rfl)
    (hs : starEach [a] X.env = [(false, eval a X.env)] := by rfl) (hf : ∀ x, foldedSetIterable (.Call (.Name "enumerate" p) [a] [] pos2) X.env x = pure x := by intro _; rfl) : WS X Γ M (.For (.Tuple elts kk tpos) (.Call (.Name "enumerate" p) [a] [] pos2) body [] pos :: sts) Ψ := by
  refine ws_cons (w1_forEU hp hc hg hm (fun P σ H s m => (h P σ H s m).mono fun vs H1 ⟨ds, M1, P1, ⟨xs, ed, q⟩, z⟩ => ⟨ds, M1, P1, ⟨fun i => Unr X (.Tuple elts kk tpos) body { Ψ with nx := fun Γ' M' => WS X Γ' M' sts Ψ } ((enumD 0 xs).drop i), xs, ed, q, fun i y Γ' M' hy z => ?_, fun Γ' M' z => ?_⟩, z⟩) hs hf)
  · have e := enumD_get xs 0 i y hy
    rw [Nat.zero_add] at e
    exact unr_step e z
  · rw [← enumD_len 0 xs] at z
    exact unr_end z
theorem wu_Z (hp : PassesOwn (model X.prog X.w) X.A X.env X.xe) (hm : X.mg "zip" = none) (h : WA X Γ M [a, b] fun ds M1 => ∃ xs ys : List D, ds = [.tup xs, .tup ys] ∧ xs.length = ys.length ∧ Unr X (.Tuple elts kk tpos) body { Ψ with nx := fun Γ' M' => WS X Γ' M' sts Ψ } (zipD xs ys) Γ M1) (hc : X.calm = true := by rfl) (hg : Gl X "zip" := by rfl)
    (hs : starEach [a, b] X.env = (false, eval a X.env) :: starEach [b] X.env := by rfl) (hpl : (backTo pos2 (starEach [b] X.env)).any (·.1) = false := by rfl) (hf : ∀ x, foldedSetIterable (.Call (.Name "zip" p) [a, b] [] pos2) X.env x = pure x := by intro _; rfl) : WS X Γ M (.For (.Tuple elts kk tpos) (.Call (.Name "zip" p) [a, b] [] pos2) body [] pos :: sts) Ψ := by
  refine ws_cons (w1_forZU hp hc hg hm (fun P σ H s m => (h P σ H s m).mono fun vs H1 ⟨ds, M1, P1, ⟨xs, ys, ed, hl, q⟩, z⟩ => ⟨ds, M1, P1, ⟨fun i => Unr X (.Tuple elts kk tpos) body { Ψ with nx := fun Γ' M' => WS X Γ' M' sts Ψ } ((zipD xs ys).drop i), xs, ys, ed, hl, q, fun i x y Γ' M' hx hy z => unr_step (zipD_get xs ys i x y hx hy) z, fun Γ' M' z => ?_⟩, z⟩) hs hpl hf)
  rw [← zipD_len xs ys hl] at z
  exact unr_end z
end
end Dt

set_option Elab.async false
set_option linter.all false
set_option maxRecDepth 100000
set_option maxHeartbeats 2000000
/-! Dt, part 9: == of like data, states weakened, small rules. -/
namespace Dt
open PySem PySem.Spec PyProof.Rows L2
section
variable {X : Cx} {Γ : Sl} {M : Mem} {Φ : VP} {x y : D} {i j v : Int}
theorem eqv_same {x : D} (h : shp x = true) : PyData.eqv (py x) (py x) = true := SeqAt.eqv_refl _ (SeqAt.canLay_of_shaped (Bool.and_eq_true_iff.mp h).2)
theorem od_neSame (hu : X.A.units + 64 < cLine) (e : x = y) (h : shp x = true) (q : Φ (.bl false) M) : OpD X (compareOp .NotEq) x y M Φ := by
  subst e
  refine od_neD hu (.inl rfl) (.inl rfl) h h ?_
  rw [eqv_same h]
  exact q
theorem od_eqSame (hu : X.A.units + 64 < cLine) (e : x = y) (h : shp x = true) (q : Φ (.bl true) M) : OpD X (compareOp .Eq) x y M Φ := by
  subst e
  refine od_eqD hu (.inl rfl) (.inl rfl) h h ?_
  rw [eqv_same h]
  exact q
theorem od_neF (e : i = j) (q : Φ (.bl false) M) : OpD X (compareOp .NotEq) (.int i) (.int j) M Φ := od_ne (by rw [decide_eq_true e]; exact q)
theorem od_neT (e : i ≠ j) (q : Φ (.bl true) M) : OpD X (compareOp .NotEq) (.int i) (.int j) M Φ := od_ne (by rw [decide_eq_false e]; exact q)
theorem od_powV (hc : 0 ≤ j ∧ j ≤ 1000000 ∧ i.natAbs < 2 ^ 64) (hv : i ^ j.toNat = v) (q : Φ (.int v) M) : OpD X (binaryOp .Pow) (.int i) (.int j) M Φ := od_pow hc (by rw [hv]; exact q)
end
/-! ### slots forgotten -/
def Wk (A B : Sl) : Prop := A.length = B.length ∧ ∀ (i : Nat) (d : D), A[i]? = some (some d) → B[i]? = some (some d)
theorem wkE : Wk [] [] := ⟨rfl, fun _ _ h => h⟩
theorem wkS {x : Option D} {A B : Sl} (h : Wk A B) : Wk (x :: A) (x :: B) := ⟨by rw [List.length_cons, List.length_cons, h.1], fun i d q => by
  cases i with
  | zero => exact q
  | succ i => exact h.2 i d q⟩
theorem wkN {y : Option D} {A B : Sl} (h : Wk A B) : Wk (none :: A) (y :: B) := ⟨by rw [List.length_cons, List.length_cons, h.1], fun i d q => by
  cases i with
  | zero => cases q
  | succ i => exact h.2 i d q⟩
theorem ws_wk {X : Cx} {Γ Γ' : Sl} {M M' : Mem} {sts : List Stmt} {Ψ : Po} (w : Wk Γ' Γ) (hm : M'.Sublist M) (h : WS X Γ' M' sts Ψ) : WS X Γ M sts Ψ := ws_weak h w.1 w.2 hm
theorem getI {ns : List Int} {k : Nat} (h : (k : Int) < ((ns.map D.int).length : Int)) : (ns.map D.int)[k]? = some (.int (ns.getD k 0)) := by
  have h2 : k < ns.length := by
    rw [List.length_map] at h
    omega
  rw [List.getElem?_map, List.getElem?_eq_getElem h2, List.getD_eq_getElem?_getD, List.getElem?_eq_getElem h2]
  rfl
theorem getset {M : Mem} {k : Nat} {x y : Addr × MO} (h : M[k]? = some x) : (M.set k y)[k]? = some y := List.getElem?_set_self (List.getElem?_eq_some_iff.mp h).1
theorem half {x y : Int} (h : (x + y) % 2 = 1) : 2 * (x * y / 2) = x * y := by
  have h2 : x * y % 2 = 0 := by
    rw [Int.mul_emod]
    rcases Int.emod_two_eq x with a | a <;> rcases Int.emod_two_eq y with b | b <;> simp [a, b] <;> omega
  omega
end Dt

set_option Elab.async false
set_option linter.all false
set_option maxRecDepth 100000
set_option maxHeartbeats 2000000
/-! Dt, part 10: the head by facts; a def may stand anywhere (a property's getter too). -/
namespace Dt
open PySem PySem.Spec PyProof.Rows L2
abbrev Fg := PySem.W.Frag
/-- one def: how its function object is found, its parts -/
structure Df where
  loc : Fg → Addr
  nm : Str
  qu : Str
  pa : Arguments
  bo : List Stmt
  sc : Scope
  dv : List He.Dv := []
  kv : List (Str × He.Dv) := []
def seeF (K : Fg) (a : Addr) : He.FnW := (K.lookup a).bind fun o => match o.data with
  | .func g => some (g.name, g.qualname, g.params, g.body, g.scope, g.globals, g.closure, g.builtins)
  | _ => none
def Df.told (d : Df) : He.FnW := some (d.nm, d.qu, d.pa, .stmts d.bo, d.sc, mainGlobals, [], builtinsNs)
def Df.ds (K : Fg) (d : Df) : List V := d.dv.map fun z => z.v K
def Df.ks (K : Fg) (d : Df) : List (Str × V) := d.kv.map fun z => (z.1, z.2.v K)
def Df.good (K : Fg) (d : Df) : Bool := (K.lookup (d.loc K)).any fun o => match o.data with
  | .func g => PySem.W.keepIn K (.ref (d.loc K)) && PySem.W.codeIn K g.code d.qu && He.dflB K g.defaults (d.ds K) && He.kwdB K g.kwdefaults (d.ks K)
  | _ => false
theorem Df.fun_ {K : Fg} {d : Df} (h1 : seeF K (d.loc K) = d.told) (h2 : d.good K = true) : ∃ fd, FunD K d.nm d.qu d.pa d.bo d.sc (d.ds K) (d.ks K) (d.loc K) fd := by
  unfold seeF at h1
  unfold Df.good at h2
  generalize hl : K.lookup (d.loc K) = lo at h1 h2
  cases lo with
  | none => cases h2
  | some ob =>
    obtain ⟨c0, d0, dat, sl0⟩ := ob
    cases dat with
    | func g =>
      obtain ⟨g1, g2, g3, g4, g5, g6, g7, g8, g9, g10, g11, g12, g13, g14, g15⟩ := g
      have z : (some (g1, g2, g3, g4, g5, g6, g7, g15) : He.FnW) = d.told := h1
      simp only [Df.told, Option.some.injEq, Prod.mk.injEq] at z
      obtain ⟨r1, r2, r3, r4, r5, r6, r7, r8⟩ := z
      have y : (PySem.W.keepIn K (.ref (d.loc K)) && PySem.W.codeIn K g13 d.qu && He.dflB K g8 (d.ds K) && He.kwdB K g9 (d.ks K)) = true := h2
      simp only [Bool.and_eq_true] at y
      obtain ⟨⟨⟨y1, y2⟩, y3⟩, y4⟩ := y
      subst r1 r2 r3 r4 r5 r6 r7 r8
      refine ⟨_, ⟨⟨c0, d0, g8, g9, g10, g11, g12, g13, g14, sl0, rfl, hl, y2, He.dflB_ok y3, He.kwdB_ok y4⟩, y1⟩⟩
    | _ => cases h2
/-- what the head tells -/
structure Told (fa : List He.Fa) (fn : List Df) (ex : Fg → Bool) (K : Fg) : Prop where
  fact : ∀ f, f ∈ fa → f.ok K = true
  defn : ∀ d, d ∈ fn → ∃ fd, FunD K d.nm d.qu d.pa d.bo d.sc (d.ds K) (d.ks K) (d.loc K) fd
  more : ex K = true
abbrev AlP : Type := Bool × List He.FnW
def lookP (fa : List He.Fa) (fn : List Df) (ex : Fg → Bool) (K : Fg) : AlP := (fa.all (fun f => f.ok K) && fn.all (fun d => d.good K) && ex K, fn.map fun d => seeF K (d.loc K))
def wantP (fn : List Df) : AlP := (true, fn.map Df.told)
theorem told_of {fa : List He.Fa} {fn : List Df} {ex : Fg → Bool} {K : Fg} (h : lookP fa fn ex K = wantP fn) : Told fa fn ex K := by
  have h1 : (fa.all (fun f => f.ok K) && fn.all (fun d => d.good K) && ex K) = true := congrArg Prod.fst h
  have h2 : fn.map (fun d => seeF K (d.loc K)) = fn.map Df.told := congrArg Prod.snd h
  simp only [Bool.and_eq_true, List.all_eq_true] at h1
  obtain ⟨⟨a1, a2⟩, a3⟩ := h1
  exact ⟨a1, fun d hd => Df.fun_ (List.map_inj_left.mp h2 d hd) (a2 d hd), a3⟩
def hookP (n : Nat) (fa : List He.Fa) (fn : List Df) (ex : Fg → Bool) : PySem.W.Hook where
  α := AlP
  obs := fun s => lookP fa fn ex (He.frG s.heap.get? (He.asD s.heap.get? n))
  val := fun _ => wantP fn
  says := fun _ h => ∃ K : Fg, K.In h ∧ Told fa fn ex K
  of := fun _ _ e => ⟨_, He.frG_in, told_of e⟩
  keeps := fun _ _ _ ⟨K, hK, c⟩ k => ⟨K, PySem.W.Frag.In.keeps hK k, c⟩
def obP (n : Nat) (fa : List He.Fa) (fn : List Df) (ex : Fg → Bool) (s : PySem.W.SharedT) : AlP := lookP fa fn ex (He.frG (HandSHeadRun.getT s) (He.asD (HandSHeadRun.getT s) n))
theorem obP_eq {n : Nat} {fa : List He.Fa} {fn : List Df} {ex : Fg → Bool} (s : PySem.W.SharedT) : obP n fa fn ex s = (hookP n fa fn ex).obs s.abs := by
  have e : HandSHeadRun.getT s = s.abs.heap.get? := funext (HandSHeadRun.getT_eq s)
  unfold obP
  rw [e]
  rfl
/-! ### properties -/
def proA (K : Fg) (C m : Str) : Addr := He.ma K (He.ga K C) m
def getA (K : Fg) (C m : Str) : Addr := match PySem.W.recIn K (proA K C m) "property" with
  | some (.ref g :: _) => g
  | _ => 0
def propB (K : Fg) (C m : Str) : Bool := He.eqO (PySem.W.findIn K (.ref (He.ga K C)) m) (some (some (.ref (proA K C m)))) && He.eqO (PySem.W.specialIn K (.ref (proA K C m)) "__get__") (some (some (.builtin "property.__get__"))) && decide (PySem.W.takesIn K (.ref (proA K C m)) = some true) && (match PySem.W.recIn K (proA K C m) "property" with
  | some (.ref _ :: _) => true
  | _ => false)
theorem propB_ok {K : Fg} {C m : Str} (h : propB K C m = true) : PropOf K (He.ga K C) m (proA K C m) (getA K C m) := by
  unfold propB at h
  rw [Bool.and_eq_true, Bool.and_eq_true, Bool.and_eq_true] at h
  obtain ⟨⟨⟨h1, h2⟩, h3⟩, h4⟩ := h
  refine ⟨He.eqO_ok h1, He.eqO_ok h2, of_decide_eq_true h3, ?_⟩
  unfold getA
  split at h4
  · rename_i g rest e
    rw [e]
    exact ⟨rest, rfl⟩
  · cases h4
/-- where defs stand -/
def locG (x : Str) (K : Fg) : Addr := He.ga K x
def locM (C m : Str) (K : Fg) : Addr := He.ma K (He.ga K C) m
def locP (C m : Str) (K : Fg) : Addr := getA K C m
/-! ### from facts to what the walks take -/
section
variable {P : Program} {w : World} {K : Fg} {h base : Heap} {mg : Str → Option Value} {k : Nat} {x C m qual : Str} {params : Arguments} {body : List Stmt} {scope : Scope} {fd : FuncData} {ps : List Str} {S : DS}
theorem hasFn (X : K.In h) (G : h.Ns mainGlobals mg) (F : FunD K x qual params body scope [] [] (locG x K) fd) (b : Binds K fd ps []) (g : (He.Fa.glo x).ok K = true) (F1 : FnOk P w K mg base CX0 k (locG x K) fd ps (spOf K S)) : HasFn P w K mg base k x S := ⟨_, fd, ps, F1, He.glo_ok X G g, F.kp, b⟩
theorem hasMe {nm : Str} (F : FunD K nm qual params body scope [] [] (locM C m K) fd) (b : Binds K fd ps []) (g : (He.Fa.meth C m).ok K = true) (F1 : FnOk P w K mg base CX0 k (locM C m K) fd ps (spOf K S)) : HasMe P w K mg base k (He.ga K C) m S := ⟨_, fd, ps, F1, He.meth_ok g, b⟩
theorem hasMk {nm : Str} (X : K.In h) (G : h.Ns mainGlobals mg) (F : FunD K nm qual params body scope [] [] (locM C "__init__" K) fd) (b : Binds K fd ps []) (g : (He.Fa.mkr C).ok K = true) (g2 : (He.Fa.glo C).ok K = true) (F1 : FnOk P w K mg base CX0 k (locM C "__init__" K) fd ps (spOf K S)) : HasMk P w K mg base k (He.ga K C) C S := ⟨_, fd, ps, F1, He.mkr_ok g, He.glo_ok X G g2, b⟩
theorem hasPr {nm : Str} (F : FunD K nm qual params body scope [] [] (locP C m K) fd) (b : Binds K fd ps []) (g : propB K C m = true) (F1 : FnOk P w K mg base CX0 k (locP C m K) fd ps (spOf K S)) : HasPr P w K mg base k (He.ga K C) m S := ⟨_, _, fd, ps, F1, propB_ok g, b⟩
end
end Dt

set_option Elab.async false
set_option linter.all false
set_option maxRecDepth 100000
set_option maxHeartbeats 2000000
/-! Dt, part 11: != by an own __eq__; isinstance of own classes; ranges turn by turn. -/
namespace Dt
open PySem PySem.Spec PyProof.Rows L2
section
variable {Mo : Model} {prog : Program} {w : World} {A : Around} {E : Value → Shared → Prop} {s : Shared} {K : PySem.W.Frag} {x C f : Addr} {ox : Obj} {od : Option Obj} {b : Value}
theorem neBound {args : List Value} {Q : Option Value → Shared → Prop} (X : K.In s.heap) (I : PySem.W.InstAt s.heap x ox C od) (hs : PySem.W.findIn K (.ref C) "__ne__" = some (some (.builtin "object.__ne__")))
    (h : wpAny Mo A (call (.builtin "object.__ne__") (.ref x :: args)) (fun v => Q (some v)) E s) : wpAny Mo A (callSpecialIfBound? (.ref x) "__ne__" args) Q E s := by
  have last : wpAny Mo A (call (.builtin "object.__ne__") ([.ref x] ++ args) >>= fun v => pure (some v)) Q E s := wpAny_bind (wpAny_mono h (fun _ _ z => wpAny_pure z) fun _ _ z => z)
  simp only [callSpecialIfBound?, bindSpecialIfBound?]
  refine wpAny_holding (wpAny_bind (wpAny_bind (wpAny_bind (I.type.here ((PySem.W.looks_findIn X hs).here (wpAny_bind (wpAny_askSetting (wpAny_ite ?_))))))))
  split
  · exact wpAny_bind (wpAny_of_eq (F.cmp_object.ne.bind _) (wpAny_pure (by exact last)))
  · exact wpAny_tryCatch (wpAny_bind (wpAny_of_eq (F.cmp_object.ne.bind _) (wpAny_pure (by exact last))))
theorem neEntry {Q : PySem.Fin → Shared → Prop} (X : K.In s.heap) (I : PySem.W.InstAt s.heap x ox C od) (he : PySem.W.findIn K (.ref C) "__eq__" = some (some (.ref f))) (hf : PySem.W.isFn K (.ref f) = true) (hu : A.units < cLine)
    (h : wpAny (model prog w) A (call (.ref f) [.ref x, b]) (fun v s' => ∃ k, v = .bool k ∧ Q (.done (.ret (.bool (!k)))) s') E s) : wpAny (model prog w) A (Builtin.«object.__ne__» ⟨[.ref x, b], []⟩) Q E s := by
  obtain ⟨hh, g, d, t, os⟩ := s
  unfold Builtin.«object.__ne__»
  repeat (first
    | with_reducible refine wpAny_cRoomFor hu ?_
    | (refine wpAny_bind (m := callSpecialIfBound? (.ref x) (Str.ofString "__eq__") [b]) (PySem.W.ifBound_K X I he hf (wpAny_mono h (fun r s' hr => by
        obtain ⟨k, rfl, hq⟩ := hr
        repeat (first | exact hq | exact wpAny_pure hq | exact wpAny_truthy_bool hq | (refine wpAny_bind (m := truthy (.bool _)) (wpAny_truthy_bool ?_)) | wp_step)) fun _ _ z => z)))
    | wp_step)
theorem neCall {Q : Value → Shared → Prop} (X : K.In s.heap) (I : PySem.W.InstAt s.heap x ox C od) (hm : PySem.W.mroIn K C (.type "object") = some true) (he : PySem.W.findIn K (.ref C) "__eq__" = some (some (.ref f))) (hf : PySem.W.isFn K (.ref f) = true) (hu : A.in1.units < cLine)
    (h : wpAny (model prog w) A.in1 (call (.ref f) [.ref x, b]) (fun v s' => ∃ k, v = .bool k ∧ Q (.bool (!k)) s') E s) : wpAny (model prog w) A (call (.builtin "object.__ne__") [.ref x, b]) Q E s := by
  refine wpAny_call (codeAny_call_builtin F.cmp_object.ne.plain F.cmpEntry_ne (PySem.W.check_slot F.cmpKind_ne F.cmpSplit_ne (I.type.andThen (PySem.W.looks_mroIn X hm)) (F.cmpArgs_ne _ _) (neEntry (A := A.in1) X I he hf hu (wpAny_mono h (fun v s' ⟨k, e, q⟩ => ⟨k, e, ?_⟩) fun _ _ z => z))))
  first | exact q | exact wpAny_pure q | exact ⟨_, rfl, q⟩
theorem neOwn {Q : Value → Shared → Prop} (X : K.In s.heap) (I : PySem.W.InstAt s.heap x ox C od) (hb : PySem.W.Looks (model prog w) s.heap (typeOf b) (.ref C)) (hm : PySem.W.mroIn K C (.type "object") = some true) (hn : PySem.W.findIn K (.ref C) "__ne__" = some (some (.builtin "object.__ne__")))
    (he : PySem.W.findIn K (.ref C) "__eq__" = some (some (.ref f))) (hf : PySem.W.isFn K (.ref f) = true) (hu : A.units + 1 < cLine)
    (h : wpAny (model prog w) A.in1 (call (.ref f) [.ref x, b]) (fun v s' => ∃ k, v = .bool k ∧ Q (.bool (!k)) s') E s) : wpAny (model prog w) A (compareOp .NotEq (.ref x) b) Q E s := by
  have one : wpAny (model prog w) A (tryCompare (.ref x) "__ne__" b) (fun r s' => ∃ v, r = some v ∧ Q v s') E s := by
    unfold tryCompare
    refine wpAny_bind (neBound X I hn (neCall X I hm he hf hu (wpAny_mono h (fun v s' ⟨k, e, q⟩ => ⟨k, e, wpAny_pure ⟨_, rfl, q⟩⟩) fun _ _ z => z)))
  unfold compareOp richCompare
  simp only [oneThing_ref, cmpInfo_NotEq]
  refine wpAny_holding (wpAny_bind (wpAny_cRoomFor (Nat.lt_of_succ_lt hu) ?_))
  refine wpAny_bind (I.type.here (wpAny_bind (hb.here ?_)))
  rw [show (Value.ref C != Value.ref C) = false from by simp]
  simp only [Bool.false_eq_true, if_false]
  refine wpAny_bind (wpAny_pure ?_)
  simp only [Bool.false_eq_true, if_false]
  refine wpAny_bind (wpAny_mono one (fun r s' z => ?_) fun _ _ z => z)
  obtain ⟨v, rfl, hq⟩ := z
  exact wpAny_pure hq
end
section
variable {X : Cx} {Γ : Sl} {M : Mem} {Φ : VP} {x y d : D} {k : Nat} {C : Addr} {fs gs : List (Str × D)} {S : DS}
/-- the method runs within a builtin -/
theorem run_me1 {f : Addr} {fd : FuncData} {ps : List Str} {P H : Hp} {vs : List V} {us : List Value} {ds : List D} {pins : List (Addr × Obj)} {σ : L2.St} {s : Shared} (F : FnOk X.prog X.w X.K X.mg X.base CX0 k f fd ps (spOf X.K S)) (hr : Room (k + 1) X.A) (hb : Binds X.K fd ps []) (I : Inv X pins σ H s) (r : Vals vs us) (i : IsDs X.K P vs ds) (m : MOk X.K M P H) (h : S ds M Φ) :
    wpAny (model X.prog X.w) X.A.in1 (call (.ref f) us) (EP X pins σ (Fin X.K P Φ)) X.xe s := by
  have z := sp_of (E := E0) i m h
  have hl : (us ++ []).length = ps.length := by
    rw [List.append_nil, ← r.length, ← F.len _ _ _ _ z, List.append_nil]
  refine wpAny_call (codeAny_mono (F.run X.A.in1 X.stack s H ⟨us, []⟩ (us ++ []) (vs ++ []) (Fin X.K P Φ) E0 hr.in1 I.env0.in1 (hb s us I.kIn hl) (r.append .nil) z) fun rr s' hq => ?_)
  cases rr with
  | error e => exact (pass0 (X := X) pins σ H s e s' I hq)
  | ok fl =>
    cases fl with
    | ret u => exact I.after hq
    | next => exact False.elim hq
    | brk => exact False.elim hq
    | cont => exact False.elim hq
structure NeF (K : PySem.W.Frag) (C : Addr) : Prop where
  mro : PySem.W.mroIn K C (.type "object") = some true
  ne : PySem.W.findIn K (.ref C) "__ne__" = some (some (.builtin "object.__ne__"))
/-- a != b, both of one class, by the class's own __eq__ -/
theorem od_ownNe (F : HasMe X.prog X.w X.K X.mg X.base k C "__eq__" S) (hN : NeF X.K C) (hr : Room (k + 1) X.A) (ho : ObjD M x C fs) (ho2 : ObjD M y C gs) (h : S [x, y] M fun r M1 => ∃ b, r = .bl b ∧ Φ (.bl (!b)) M1) : OpD X (compareOp .NotEq) x y M Φ := fun P H a b m ia ib pins σ s u w I r1 r2 => by
  obtain ⟨f, fd, ps, F1, hm, hb⟩ := F
  obtain ⟨a1, dx, od, rfl, rfl, J⟩ := inst_of ho m ia I r1
  obtain ⟨a2, dx2, od2, rfl, rfl, J2⟩ := inst_of ho2 m ib I r2
  refine neOwn I.kIn J J2.type hN.mro hN.ne hm.at_ hm.fn (by have := hr.units; omega) (thn (run_me1 (vs := [.ref a1, .ref a2]) F1 hr hb I (.cons rfl (.cons rfl .nil)) (.cons ia (.cons ib .nil)) m h) fun u2 s2 ⟨v2, H2, I2, rv2, d2, M2, P2, ⟨k2, e2, q⟩, e3, m2, i2⟩ => ?_)
  subst e2
  cases i2
  cases rv2
  exact ⟨k2, rfl, .bl (!k2), H2, I2, rfl, _, M2, P2, q, e3, m2, .bl⟩
end
end Dt

set_option Elab.async false
set_option linter.all false
set_option maxRecDepth 100000
set_option maxHeartbeats 2000000
/-! Dt, part 12: isinstance with own classes; ranges turn by turn; more facts of the head. -/
namespace Dt
open PySem PySem.Spec PyProof.Rows L2
/-- what isinstance asks of an own class -/
structure IsF (K : PySem.W.Frag) (C : Addr) : Prop where
  cls : Cls K C
  own : PySem.W.findIn K (.ref C) "__class__" = some (some (.builtin "object.__class__"))
  get : PySem.W.specialIn K (.builtin "object.__class__") "__get__" = some (some (.builtin "getset_descriptor.__get__"))
  tak : PySem.W.takesIn K (.builtin "object.__class__") = some true
  mro : PySem.W.mroIn K C (.type "object") = some true
theorem kit_self {K : PySem.W.Frag} {C : Addr} : PySem.W.kitOne K (.ref C) (.ref C) = some true := by
  unfold PySem.W.kitOne
  rw [if_pos (by simp)]
section
variable {X : Cx} {Γ : Sl} {M : Mem} {Φ : VP} {d : D} {C C' : Addr} {fs : List (Str × D)} {b : Bool} {t n : String}
theorem IsF.ty {K : PySem.W.Frag} {P H : Hp} {v : V} (hI : IsF K C) (ho : ObjD M d C fs) (m : MOk K M P H) (i : IsD K P v d) : TyX K H v (.ref C) := by
  obtain ⟨a, dx, xs, rfl, ha, hx⟩ := ho.at_ m i
  exact .base (.ins ha hI.cls hI.own hI.get hI.tak hI.mro)
/-- isinstance(o, C) of an own object -/
theorem cd_isiC (ho : ObjD M d C fs) (hI : IsF X.K C) (hk : PySem.W.kitOne X.K (.ref C) (.ref C') = some b) (q : Φ (.bl b) M) : CaD X (.builtin "isinstance") [d, .adr C'] M Φ := cd_of call_isi fun P H vs m h => by
  obtain ⟨v, v2, rfl, hv, hv2⟩ := h.un2
  cases hv2
  exact ⟨v, .ref C', _, _, b, rfl, .own C', hI.ty ho m hv, hk, .one q m .bl⟩
theorem cd_isiCT (ho : ObjD M d C fs) (hI : IsF X.K C) (hk : PySem.W.kitOne X.K (.ref C) (.type n) = some b) (q : Φ (.bl b) M) : CaD X (.builtin "isinstance") [d, .ty n] M Φ := cd_of call_isi fun P H vs m h => by
  obtain ⟨v, v2, rfl, hv, hv2⟩ := h.un2
  cases hv2
  exact ⟨v, .ty n, _, _, b, rfl, .ty n, hI.ty ho m hv, hk, .one q m .bl⟩
/-- .. of plain data -/
theorem cd_isiTC (ht : tyD d = some t) (hk : PySem.W.kitOne X.K (.type t) (.ref C') = some b) (q : Φ (.bl b) M) : CaD X (.builtin "isinstance") [d, .adr C'] M Φ := cd_of call_isi fun P H vs m h => by
  obtain ⟨v, v2, rfl, hv, hv2⟩ := h.un2
  cases hv2
  exact ⟨v, .ref C', _, _, b, rfl, .own C', tyX_of m hv ht, hk, .one q m .bl⟩
end
/-! ### ranges turn by turn -/
def rngD : Int → Nat → List D
  | _, 0 => []
  | s, n + 1 => .int s :: rngD (s + 1) n
theorem rngD_get : ∀ (n i : Nat) (s : Int), i < n → (rngD s n)[i]? = some (.int (s + (i : Int)))
  | 0, i, s, h => absurd h (Nat.not_lt_zero _)
  | n + 1, 0, s, h => by
    show some (D.int s) = some (.int (s + ((0 : Nat) : Int)))
    rw [show s + ((0 : Nat) : Int) = s by omega]
  | n + 1, i + 1, s, h => by
    have z := rngD_get n i (s + 1) (by omega)
    show (rngD (s + 1) n)[i]? = _
    rw [z, show s + 1 + (i : Int) = s + ((i + 1 : Nat) : Int) by omega]
theorem rngD_len : ∀ (n : Nat) (s : Int), (rngD s n).length = n
  | 0, _ => rfl
  | n + 1, s => by
    show (rngD (s + 1) n).length + 1 = n + 1
    rw [rngD_len n]
section
variable {X : Cx} {Γ : Sl} {M : Mem} {tg a : Expr} {body sts : List Stmt} {Ψ : Po} {pos p pos2 : Pos}
theorem wu_R (n : Nat) (hp : PassesOwn (model X.prog X.w) X.A X.env X.xe) (hm : X.mg "range" = none) (h : WA X Γ M [a] fun ds M1 => ds = [.int (n : Int)] ∧ n < 2 ^ 40 ∧ Unr X tg body { Ψ with nx := fun Γ' M' => WS X Γ' M' sts Ψ } (rngD 0 n) Γ M1) (hc : X.calm = true := by rfl) (hg : Gl X "range" := by rfl)
    (hs : starEach [a] X.env = [(false, eval a X.env)] := by rfl) (hf : ∀ x, foldedSetIterable (.Call (.Name "range" p) [a] [] pos2) X.env x = pure x := by intro _; rfl) : WS X Γ M (.For tg (.Call (.Name "range" p) [a] [] pos2) body [] pos :: sts) Ψ := by
  refine ws_cons (w1_forR1 hp hc hg hm (fun P σ H s m => (h P σ H s m).mono fun vs H1 ⟨ds, M1, P1, ⟨ed, hn, q⟩, z⟩ => ⟨ds, M1, P1, ⟨fun i => Unr X tg body { Ψ with nx := fun Γ' M' => WS X Γ' M' sts Ψ } ((rngD 0 n).drop i), (n : Int), ed, by omega, by omega, q, fun i Γ' M' hi z => ?_, fun Γ' M' z => ?_⟩, z⟩) hs hf)
  · have e := rngD_get n i 0 (by omega)
    rw [Int.zero_add] at e
    exact unr_step e z
  · have e : ((n : Int)).toNat = (rngD 0 n).length := by
      rw [rngD_len]
      omega
    rw [e] at z
    exact unr_end z
end
/-! ### facts of the head -/
def isB (K : Fg) (C : Str) : Bool := He.eqO (PySem.W.findIn K (.ref (He.ga K C)) "__class__") (some (some (.builtin "object.__class__"))) && He.eqO (PySem.W.specialIn K (.builtin "object.__class__") "__get__") (some (some (.builtin "getset_descriptor.__get__"))) && decide (PySem.W.takesIn K (.builtin "object.__class__") = some true) && decide (PySem.W.mroIn K (He.ga K C) (.type "object") = some true)
theorem isB_ok {K : Fg} {C : Str} (c : Cls K (He.ga K C)) (h : isB K C = true) : IsF K (He.ga K C) := by
  unfold isB at h
  rw [Bool.and_eq_true, Bool.and_eq_true, Bool.and_eq_true] at h
  obtain ⟨⟨⟨h1, h2⟩, h3⟩, h4⟩ := h
  exact ⟨c, He.eqO_ok h1, He.eqO_ok h2, of_decide_eq_true h3, of_decide_eq_true h4⟩
def neB (K : Fg) (C : Str) : Bool := He.eqO (PySem.W.findIn K (.ref (He.ga K C)) "__ne__") (some (some (.builtin "object.__ne__"))) && decide (PySem.W.mroIn K (He.ga K C) (.type "object") = some true)
theorem neB_ok {K : Fg} {C : Str} (h : neB K C = true) : NeF K (He.ga K C) := by
  unfold neB at h
  rw [Bool.and_eq_true] at h
  exact ⟨of_decide_eq_true h.2, He.eqO_ok h.1⟩
end Dt

set_option Elab.async false
set_option linter.all false
set_option maxRecDepth 100000
set_option maxHeartbeats 2000000
/-! Dt, part 13: == of a tuple of anything with the empty one. -/
namespace Dt
open PySem PySem.Spec PyProof.Rows L2
section
variable {X : Cx} {M : Mem} {Φ : VP}
theorem od_eqT0 {xs : List D} (hu : X.A.units < cLine) (q : Φ (.bl xs.isEmpty) M) : OpD X (compareOp .Eq) (.tup xs) (.tup []) M Φ := fun P H a b m ia ib pins σ s u w I r1 r2 => by
  cases ia with
  | @tup a1 vs _ hs hl hi =>
    cases ib with
    | @tup a2 vs2 _ hs2 hl2 hi2 =>
      cases r1
      cases r2
      obtain ⟨its, rv, pl, _⟩ := I.tuple (Same.tupS m.ex hs)
      obtain ⟨its2, rv2, pl2, _⟩ := I.tuple (Same.tupS m.ex hs2)
      have e2 : its2 = [] := List.length_eq_zero_iff.mp (by rw [← rv2.length, hl2]; rfl)
      subst e2
      refine (SeqAt.RcAt.tuples (A := X.A) (s := s) (e := fun _ => true) pl pl2 hu (fun j h1 h2 => absurd h2 (Nat.not_lt_zero _))) X.prog X.w X.xe _ ?_
      refine ⟨.bl xs.isEmpty, H, I, ?_, .one q m .bl⟩
      have hlen : its.length = xs.length := by rw [← rv.length, hl]
      show Value.bool _ = Value.bool _
      congr 1
      cases xs with
      | nil =>
        have e3 : its = [] := List.length_eq_zero_iff.mp (by rw [hlen]; rfl)
        subst e3
        rfl
      | cons x r =>
        cases its with
        | nil => simp at hlen
        | cons y z => simp
end
end Dt

set_option Elab.async false
set_option linter.all false
set_option maxRecDepth 100000
set_option maxHeartbeats 2000000
/-! Dt, part 14: lists of pairs of numbers. -/
namespace Dt
open PySem PySem.Spec PyProof.Rows L2
def pD (p : Int × Int) : D := .tup [.int p.1, .int p.2]
def psD (ps : List (Int × Int)) : D := .lst (ps.map pD)
theorem eqv_p (a b : Int × Int) : PyData.eqv (py (pD a)) (py (pD b)) = decide (a = b) := by
  obtain ⟨a1, a2⟩ := a
  obtain ⟨b1, b2⟩ := b
  rw [Bool.eq_iff_iff]
  simp only [pD, py, pys, PyData.eqv, PyData.eqvAll, Bool.and_true, Bool.and_eq_true, beq_iff_eq, decide_eq_true_eq, Prod.mk.injEq]
theorem eqv_pys : ∀ as bs : List (Int × Int), PyData.eqvAll (pys (as.map pD)) (pys (bs.map pD)) = decide (as = bs)
  | [], [] => rfl
  | [], b :: bs => rfl
  | a :: as, [] => rfl
  | a :: as, b :: bs => by
    show (PyData.eqv (py (pD a)) (py (pD b)) && PyData.eqvAll (pys (as.map pD)) (pys (bs.map pD))) = _
    rw [eqv_p, eqv_pys as bs, Bool.eq_iff_iff]
    simp only [Bool.and_eq_true, decide_eq_true_eq, List.cons.injEq]
theorem eqv_ps (as bs : List (Int × Int)) : PyData.eqv (py (psD as)) (py (psD bs)) = decide (as = bs) := eqv_pys as bs
theorem any_ps (x : Int × Int) : ∀ ps : List (Int × Int), (pys (ps.map pD)).any (fun z => PyData.eqv z (py (pD x))) = decide (x ∈ ps)
  | [] => rfl
  | a :: as => by
    show (PyData.eqv (py (pD a)) (py (pD x)) || (pys (as.map pD)).any fun z => PyData.eqv z (py (pD x))) = _
    rw [eqv_p, any_ps x as, Bool.eq_iff_iff]
    simp only [Bool.or_eq_true, decide_eq_true_eq, List.mem_cons]
    exact ⟨fun h => h.elim (fun e => .inl e.symm) .inr, fun h => h.elim (fun e => .inl e.symm) .inr⟩
theorem lay_ps : ∀ ps : List (Int × Int), PyData.canLayAll0 (pys (ps.map pD)) = true
  | [] => rfl
  | a :: as => by
    show PyData.canLayAll0 (py (pD a) :: pys (as.map pD)) = true
    simp only [PyData.canLayAll0, lay_ps as, Bool.and_true]
    rfl
theorem ok_ps : ∀ ps : List (Int × Int), okDs (ps.map pD) = true
  | [] => rfl
  | a :: as => by
    show (okD (pD a) && okDs (as.map pD)) = true
    rw [ok_ps as]
    rfl
theorem deep_ps : ∀ ps : List (Int × Int), PyData.depthAll (pys (ps.map pD)) ≤ 1
  | [] => Nat.zero_le _
  | a :: as => by
    show max (PyData.depth (py (pD a))) (PyData.depthAll (pys (as.map pD))) ≤ 1
    exact Nat.max_le.mpr ⟨(show 1 ≤ 1 from Nat.le_refl 1), deep_ps as⟩
theorem shp_ps (ps : List (Int × Int)) : shp (psD ps) = true := by
  unfold shp SeqAt.shaped
  rw [show okD (psD ps) = true from ok_ps ps, Bool.true_and, show PyData.canLay0 (py (psD ps)) = true from lay_ps ps, Bool.true_and]
  refine decide_eq_true ?_
  show PyData.depthAll (pys (ps.map pD)) + 1 ≤ 64
  have := deep_ps ps
  omega
theorem shp_p (p : Int × Int) : shp (pD p) = true := rfl
section
variable {X : Cx} {M : Mem} {Φ : VP} {x y : D} {as bs : List (Int × Int)} {p : Int × Int}
theorem od_eqP (hu : X.A.units + 64 < cLine) (sx : SeenD M x (psD as)) (sy : SeenD M y (psD bs)) (q : Φ (.bl (decide (as = bs))) M) : OpD X (compareOp .Eq) x y M Φ := od_eqD hu sx sy (shp_ps as) (shp_ps bs) (by rw [eqv_ps]; exact q)
theorem od_neP (hu : X.A.units + 64 < cLine) (sx : SeenD M x (psD as)) (sy : SeenD M y (psD bs)) (q : Φ (.bl (!decide (as = bs))) M) : OpD X (compareOp .NotEq) x y M Φ := od_neD hu sx sy (shp_ps as) (shp_ps bs) (by rw [eqv_ps]; exact q)
theorem od_inP (hu : X.A.units + 65 < cLine) (sy : SeenD M y (psD bs)) (q : Φ (.bl (decide (p ∈ bs))) M) : OpD X (compareOp .In) (pD p) y M Φ := fun P H a b m ia ib => by
  obtain ⟨h3, h4⟩ := Bool.and_eq_true_iff.mp (shp_ps bs)
  exact opT_of (op_inD hu) ⟨_, _, dp_of m.ex _ _ rfl ia, sy.dp m ib h3, rfl, h4, .one (by rw [any_ps]; exact q) m .bl⟩
theorem od_notInP (hu : X.A.units + 65 < cLine) (sy : SeenD M y (psD bs)) (q : Φ (.bl (!decide (p ∈ bs))) M) : OpD X (compareOp .NotIn) (pD p) y M Φ := fun P H a b m ia ib => by
  obtain ⟨h3, h4⟩ := Bool.and_eq_true_iff.mp (shp_ps bs)
  exact opT_of (op_notInD hu) ⟨_, _, dp_of m.ex _ _ rfl ia, sy.dp m ib h3, rfl, h4, .one (by rw [any_ps]; exact q) m .bl⟩
end
end Dt

set_option Elab.async false
set_option linter.all false
set_option maxRecDepth 100000
set_option maxHeartbeats 2000000
/-! Dt, part 15: ranges as lists; comprehensions over ranges. -/
namespace Dt
open PySem PySem.Spec PyProof.Rows L2
/-- lo, .., hi -/
def rr (lo hi : Int) : List Int := (List.range (hi - lo + 1).toNat).map fun k : Nat => lo + (k : Int)
/-- the first n from lo on -/
def rn (lo : Int) (n : Nat) : List Int := (List.range n).map fun k : Nat => lo + (k : Int)
theorem rr_rn {lo hi : Int} : rr lo hi = rn lo (hi - lo + 1).toNat := rfl
theorem rn_succ {lo : Int} {n : Nat} : rn lo (n + 1) = rn lo n ++ [lo + (n : Int)] := by
  unfold rn
  rw [List.range_succ, List.map_append]
  rfl
theorem rn_len {lo : Int} {n : Nat} : (rn lo n).length = n := by
  unfold rn
  rw [List.length_map, List.length_range]
section
variable {X : Cx} {Γ : Sl} {M : Mem} {Φ : VP} {elt : Expr} {scope : Scope} {own : List (Str × Nat)} {pos : Pos}
/-- [elt for x in range(a, b)], a list of one's own -/
theorem lcOwnR2 {x : Str} {px p pos2 : Pos} {j : Nat} {a b : Expr} (hN : X.N.Nodup) (hm : X.mg "range" = none)
    (h : WA X Γ M [a, b] fun ds M1 => ∃ (lo hi : Int) (g : Int → D), ds = [.int lo, .int hi] ∧ (-(2 ^ 20) ≤ lo ∧ hi < 2 ^ 20) ∧ -(2 ^ 60) ≤ hi ∧ lo < 2 ^ 60 ∧ (∀ i : Int, lo ≤ i → i < hi → ∀ l out s H C cl fp, WE (blkOf X scope s H C cl fp) ((wipeD Γ (own.map (·.2))).set j (some (.int i))) ((l, .lst out) :: M1) elt fun z M2 => z = g i ∧ M2 = (l, .lst out) :: M1) ∧
      ∀ l, Φ (.adr l) ((l, .lst ((rn lo (hi - lo).toNat).map g)) :: M1))
    (ok : BlkOk X.N X.env.scope scope own) (hg : ∀ (s : Shared) (H : Hp) (C : Addr) (cl : List (Str × Addr)) (fp : List Addr), PG (X.blk s H scope (compEnvC scope cl C X.env) fp) (.Name x px) (gName j)) (hg0 : Gl X "range" := by rfl) (hj : j ∈ own.map (·.2) := by decide) (hc : X.calm = true := by rfl)
    (hs : ∀ x, foldedSetIterable (.Call (.Name "range" p) [a, b] [] pos2) X.env x = pure x := by intro _; rfl) (hst : starEach [a, b] X.env = [(false, eval a X.env), (false, eval b X.env)] := by rfl) (hst2 : starEach [b] X.env = [(false, eval b X.env)] := by rfl) : WE X Γ M (.ListComp elt [⟨.Name x px, .Call (.Name "range" p) [a, b] [] pos2, [], 0⟩] scope pos) Φ := by
  refine we_lcR2 hN hg0 hm (fun P σ H s m => (h P σ H s m).mono fun vs H1 ⟨ds, M1, P1, ⟨lo, hi, g, ed, hb, hb2, hb3, hstep, q⟩, z⟩ => ⟨ds, M1, P1, ⟨fun i out M' => out = (rn lo i).map g ∧ M' = M1, lo, hi, ed, by omega, ⟨rfl, rfl⟩, ?_, ?_⟩, z⟩) hj ok hc hg hs hst hst2
  · rintro i l out M' hi' ⟨rfl, rfl⟩ s H C cl fp
    refine wts_nil ⟨fun _ s H C cl fp => (hstep (lo + (i : Int)) (by omega) hi' l _ s H C cl fp).mono fun z M2 ⟨hz, hM⟩ => ⟨_, hM, ?_, ?_, rfl⟩, fun z => by cases z⟩
    · rw [List.length_map, rn_len]
      have e : sizeLine = 2 ^ 24 := rfl
      omega
    · rw [rn_succ, List.map_append, hz]
      rfl
  · rintro l out M' ⟨rfl, rfl⟩
    exact q l
end
end Dt

set_option Elab.async false
set_option linter.all false
set_option maxRecDepth 100000
set_option maxHeartbeats 2000000
/-! Dt, part 16: a &= b and its like by the class's plain operator. -/
namespace Dt
open PySem PySem.Spec PyProof.Rows L2
section
variable {prog : Program} {w : World} {A : Around} {E : Value → Shared → Prop} {s : Shared} {K : PySem.W.Frag} {x C f : Addr} {ox : Obj} {od : Option Obj} {b : Value} {op : Operator} {cd : ClassData}
theorem inplFills {Mo : Model} {h : Heap} {nm : String} {add : Bool} (X : K.In h) (hc : PySem.W.clsIn K C = some cd) (hm : cd.mro = [.ref C, .type "object"]) (hi : PySem.W.findIn K (.ref C) (dunderI nm) = some none) (ho : typeLookup (.type "object") (dunderI nm) = pure none) : PySem.W.Looks Mo h (fillsInplaceSlot (.ref C) nm add) false := by
  intro A Q E s k q
  unfold fillsInplaceSlot
  refine wpAny_bind ((PySem.W.looks_clsIn X hc).andThen (f := fun cd => pure cd.mro) .now A _ E s k ?_)
  rw [hm, List.anyM_cons]
  refine wpAny_bind (wpAny_bind (PySem.W.looks_findIn X hi A _ E s k ?_))
  refine wpAny_pure ?_
  rw [if_neg (by decide), List.anyM_cons]
  refine wpAny_bind (wpAny_bind (wpAny_of_eq ho ?_))
  refine wpAny_pure ?_
  rw [if_neg (by decide), List.anyM_nil]
  exact wpAny_pure q
theorem inpl {Q : Value → Shared → Prop} (X : K.In s.heap) (I : PySem.W.InstAt s.heap x ox C od) (hb : PySem.W.Looks (model prog w) s.heap (typeOf b) (.ref C)) (hc : PySem.W.clsIn K C = some cd) (hm : cd.mro = [.ref C, .type "object"])
    (hi : PySem.W.findIn K (.ref C) (dunderI op.info.2) = some none) (ho : typeLookup (.type "object") (dunderI op.info.2) = pure none) (hs : PySem.W.findIn K (.ref C) (PySem.dunder op.info.2) = some (some (.ref f))) (hf : PySem.W.isFn K (.ref f) = true)
    (h : wpAny (model prog w) A (call (.ref f) [.ref x, b]) (PySem.W.CmpBack Q) E s) : wpAny (model prog w) A (inplaceOp op (.ref x) b) Q E s := by
  unfold inplaceOp
  refine wpAny_holding (wpAny_bind (I.type.here (wpAny_bind ((inplFills X hc hm hi ho).here ?_))))
  simp only [Bool.false_eq_true, if_false]
  refine wpAny_bind ?_
  unfold binaryOp1
  refine wpAny_bind (I.type.here (wpAny_bind (hb.here (wpAny_bind ((PySem.W.fills_K X hc hm hs).here ?_)))))
  simp only [beq_self_eq_true, if_true]
  refine wpAny_bind (wpAny_pure ?_)
  simp only [Bool.and_false, Bool.false_eq_true, if_false, Bool.false_and]
  refine wpAny_bind (wpAny_pure ?_)
  simp only [Bool.false_eq_true, if_false]
  refine wpAny_bind (m := tryMethod (.ref x) _ b) ?_
  unfold tryMethod
  refine wpAny_bind (PySem.W.special_fn X I hs (beq_iff_eq.mp hf) (wpAny_mono h (fun v s' hv => ?_) fun _ _ e => e))
  cases v <;> first | exact hv.elim | exact wpAny_pure (wpAny_pure (wpAny_pure hv))
end
/-- a class right under object -/
structure Top2 (K : PySem.W.Frag) (C : Addr) : Prop where
  mro : ∃ cd, PySem.W.clsIn K C = some cd ∧ cd.mro = [.ref C, .type "object"]
def top2B (K : Fg) (C : Str) : Bool := match PySem.W.clsIn K (He.ga K C) with
  | some cd => decide (cd.mro = [.ref (He.ga K C), .type "object"])
  | none => false
theorem top2_ok {K : Fg} {C : Str} (h : top2B K C = true) : Top2 K (He.ga K C) := by
  unfold top2B at h
  cases e : PySem.W.clsIn K (He.ga K C) with
  | none => rw [e] at h; cases h
  | some cd => rw [e] at h; exact ⟨cd, e, of_decide_eq_true h⟩
section
variable {X : Cx} {Γ : Sl} {M : Mem} {x y : D} {k : Nat} {C : Addr} {fs gs : List (Str × D)} {S : DS} {Ψ : Po} {e : Expr} {pos pos' : Pos} {op : Operator}
/-- a op= b, both of one class, no in-place def -/
theorem ws_augO {v : Str} {nm : Str} {d : D} (i : Nat) {sts : List Stmt} (hN : X.N.Nodup) (F : HasMe X.prog X.w X.K X.mg X.base k C nm S) (hnm : PySem.dunder op.info.2 = nm) (hT : Top2 X.K C) (hI : NoAttr X.K C (dunderI op.info.2)) (ho : typeLookup (.type "object") (dunderI op.info.2) = pure none) (hr : Room k X.A)
    (hΓ : Γ[i]? = some (some d)) (h : WE X Γ M e fun y M1 => ObjD M1 d C fs ∧ (∃ gs, ObjD M1 y C gs) ∧ S [d, y] M1 fun r M2 => WS X (Γ.set i (some r)) M2 sts Ψ)
    (hi : X.N[i]? = some v := by rfl) (hx : Loc X.env.scope v := by first | exact Or.inl rfl | exact Or.inr rfl) (hfn : X.fn v = true ∨ X.env.scope.names.lookup v = some .local := by first | exact .inl rfl | exact .inr rfl) : WS X Γ M (.AugAssign (.Name v pos') op e pos :: sts) Ψ := ws_cons fun P σ H s m => by
  obtain ⟨f, fd, ps, F1, hm, hb⟩ := F
  obtain ⟨u0, hu0, iu0⟩ := s.at_ i d hΓ
  have hp : PIp X op (fun a b H1 Q => ∃ P1 M1 d1 d2 gs1, MOk X.K M1 P1 H1 ∧ IsD X.K P1 a d1 ∧ IsD X.K P1 b d2 ∧ ObjD M1 d1 C fs ∧ ObjD M1 d2 C gs1 ∧ ∃ Φ, S [d1, d2] M1 Φ ∧ ∀ z H2, Fin X.K P1 Φ z H2 → Q z H2) := fun pins sh σ' H1 a b va vb Q I ra rb ⟨P1, M1, d1, d2, gs1, mm, ia, ib, o1, o2, Φ, hS, hq⟩ => by
    obtain ⟨a1, dx, od, rfl, rfl, J⟩ := inst_of o1 mm ia I ra
    obtain ⟨a2, dx2, od2, rfl, rfl, J2⟩ := inst_of o2 mm ib I rb
    obtain ⟨cd, hcd, hmro⟩ := hT.mro
    refine inpl I.kIn J J2.type hcd hmro hI ho (by rw [hnm]; exact hm.at_) hm.fn (thn (run_me (vs := [.ref a1, .ref a2]) F1 hr hb I (.cons rfl (.cons rfl .nil)) (.cons ia (.cons ib .nil)) mm hS) fun u2 s2 ⟨v2, H2, I2, rv2, z⟩ => ?_)
    exact SlX.cmpback rv2 ⟨v2, H2, I2, rv2, hq _ _ z⟩
  refine wpS_of (ps_aug hN hi hx pe_wp hp (hf := hfn)) ⟨u0, hu0, (h P σ H s m).mono fun v1 H1 ⟨d2, M1, P1, ⟨o1, ⟨gs1, o2⟩, q⟩, e1, m1, i1⟩ => ⟨P1, M1, d, d2, gs1, m1, iu0.mono e1, i1, o1, o2, _, q, fun z H2 ⟨dz, M2, P2, qz, e2, m2, iz⟩ => ?_⟩⟩
  exact ⟨_, M2, P2, qz, e1.trans e2, ((s.mono (e1.trans e2))).set iz, m2⟩
end
end Dt

set_option Elab.async false
set_option linter.all false
set_option maxRecDepth 100000
set_option maxHeartbeats 2000000
/-! Dt, part 17: lists put together. -/
namespace Dt
open PySem PySem.Spec PyProof.Rows L2
section
variable {X : Cx} {M : Mem} {Φ : VP}
/-- a + b, both lists of one's own -/
theorem od_catO {k k2 : Nat} {l l2 : Addr} {ds es : List D} (hk : M[k]? = some (l, .lst ds)) (hk2 : M[k2]? = some (l2, .lst es)) (hl : ds.length + es.length ≤ sizeLine) (q : Φ (.lst (ds ++ es)) M) : OpD X (binaryOp .Add) (.adr l) (.adr l2) M Φ := fun P H a b m ia ib => by
  cases ia
  cases ib
  obtain ⟨_, xs, h1, h2⟩ := m.get hk
  obtain ⟨_, ys, h3, h4⟩ := m.get hk2
  refine opT_of op_cat ⟨l, l2, xs, ys, rfl, rfl, h1, h3, by rw [h2.1, h4.1]; exact hl, fun p hp => ?_⟩
  obtain ⟨m2, e2⟩ := m.push (o := .lst (xs ++ ys)) hp
  have h5 := h2.append h4
  exact ⟨_, M, _, q, e2, m2, .lst (SqL.of upd_same) h5.1 fun i x d a b => (h5.2 i x d a b).mono e2⟩
/-- .. a new list of one's own -/
theorem od_catOO {k k2 : Nat} {l l2 : Addr} {ds es : List D} (hk : M[k]? = some (l, .lst ds)) (hk2 : M[k2]? = some (l2, .lst es)) (hl : ds.length + es.length ≤ sizeLine) (q : ∀ p, Φ (.adr p) ((p, .lst (ds ++ es)) :: M)) : OpD X (binaryOp .Add) (.adr l) (.adr l2) M Φ := fun P H a b m ia ib => by
  cases ia
  cases ib
  obtain ⟨_, xs, h1, h2⟩ := m.get hk
  obtain ⟨_, ys, h3, h4⟩ := m.get hk2
  refine opT_of op_cat ⟨l, l2, xs, ys, rfl, rfl, h1, h3, by rw [h2.1, h4.1]; exact hl, fun p hp => ?_⟩
  exact ⟨_, _, P, q p, Same.refl P, m.own hp ⟨_, upd_same, h2.append h4⟩, .adr⟩
end
theorem getMap {α : Type} {f : α → D} {L : List α} {i : Nat} {y : D} (h : (L.map f)[i]? = some y) : ∃ z, L[i]? = some z ∧ y = f z := by
  rw [List.getElem?_map] at h
  cases e : L[i]? with
  | none => rw [e] at h; cases h
  | some z =>
    rw [e] at h
    cases h
    exact ⟨z, rfl, rfl⟩
theorem take_flat {α β : Type} {L : List α} {i : Nat} {z : α} (f : α → List β) (h : L[i]? = some z) : (L.take (i + 1)).flatMap f = (L.take i).flatMap f ++ f z := by
  rw [List.take_add_one, h, List.flatMap_append]
  simp
end Dt

set_option Elab.async false
set_option linter.all false
set_option maxRecDepth 100000
set_option maxHeartbeats 2000000
/-! Dt, part 18: bool(o) by an own __bool__. -/
namespace Dt
open PySem PySem.Spec PyProof.Rows L2
section
variable {prog : Program} {w : World} {A : Around} {E : Value → Shared → Prop} {s : Shared}
theorem bool_any {v : Value} {Q : Value → Shared → Prop} (h : wpAny (model prog w) A.in1.in1 (truthy v) (fun b s₁ => Q (.bool b) s₁) E s) : wpAny (model prog w) A (call (.type "bool") [v]) Q E s := by
  refine callType_codes (T := "bool") (Bi := Builtin.«object.__init__») (Q₁ := fun r s₁ => ∃ b, r = Value.bool b ∧ Q r s₁) PySem.F.called_bool (PySem.F.typeCall_bool_1 _) PySem.F.entry_object_init ?_ ?_
  · refine codeAny_of_tree ?_
    show wpAny _ A.in1.in1 (do checkBuiltinCall "bool.__new__" ⟨[.type "bool", v], []⟩; again (.builtin "bool.__new__" ⟨[.type "bool", v], []⟩)) _ _ s
    refine wpAny_bind (wpAny_of_eq (PySem.F.newCall_bool_1 _) (wpAny_pure ⟨plainId_quiet (by decide +kernel) _, codeAny_builtin PySem.F.entry_bool_new ?_⟩))
    rw [Around.under_plainId (by decide +kernel) _]
    have f1 := F.conv_sub_bool
    have h2 : wpAny (model prog w) A.in1.in1 (truthy v) (fun b s₁ => ∃ b', Value.bool b = Value.bool b' ∧ Q (.bool b) s₁) E s := wpAny_mono h (fun b s₁ q => ⟨b, rfl, q⟩) fun _ _ z => z
    obtain ⟨hp, g, d, tk, os⟩ := s
    unfold Builtin.«bool.__new__»
    repeat (any_goals (first | assumption | (with_reducible refine wpAny_bind (m := truthy v) (wpAny_mono h2 (fun b s₁ q => ?_) fun _ _ z => z)) | wp_step))
  · rintro obj s₁ ⟨b, rfl, hq⟩
    have ht : s₁.TypeIs (.bool b) "bool" := rfl
    exact ⟨ht, PySem.F.args_object_init_2 _ _, object_init_meets PySem.F.called_bool.init.lookup PySem.F.called_bool.made (by decide) prog w A.in1 _ s₁ ⟨ht, rfl, hq⟩⟩
end
section
variable {X : Cx} {M : Mem} {Φ : VP} {d : D} {k : Nat} {C : Addr} {fs : List (Str × D)} {S : DS}
theorem run_me2 {f : Addr} {fd : FuncData} {ps : List Str} {P H : Hp} {vs : List V} {us : List Value} {ds : List D} {pins : List (Addr × Obj)} {σ : L2.St} {s : Shared} (F : FnOk X.prog X.w X.K X.mg X.base CX0 k f fd ps (spOf X.K S)) (hr : Room (k + 2) X.A) (hb : Binds X.K fd ps []) (I : Inv X pins σ H s) (r : Vals vs us) (i : IsDs X.K P vs ds) (m : MOk X.K M P H) (h : S ds M Φ) :
    wpAny (model X.prog X.w) X.A.in1.in1 (call (.ref f) us) (EP X pins σ (Fin X.K P Φ)) X.xe s := by
  have z := sp_of (E := E0) i m h
  have hl : (us ++ []).length = ps.length := by
    rw [List.append_nil, ← r.length, ← F.len _ _ _ _ z, List.append_nil]
  have hr2 : Room k X.A.in1.in1 := (show Room (k + 1) X.A.in1 from Room.in1 hr).in1
  refine wpAny_call (codeAny_mono (F.run X.A.in1.in1 X.stack s H ⟨us, []⟩ (us ++ []) (vs ++ []) (Fin X.K P Φ) E0 hr2 I.env0.in1.in1 (hb s us I.kIn hl) (r.append .nil) z) fun rr s' hq => ?_)
  cases rr with
  | error e => exact (pass0 (X := X) pins σ H s e s' I hq)
  | ok fl =>
    cases fl with
    | ret u => exact I.after hq
    | next => exact False.elim hq
    | brk => exact False.elim hq
    | cont => exact False.elim hq
/-- bool(o) -/
theorem cd_boolO (F : HasMe X.prog X.w X.K X.mg X.base k C "__bool__" S) (hr : Room (k + 2) X.A) (ho : ObjD M d C fs) (h : S [d] M fun r M1 => ∃ b, r = .bl b ∧ Φ (.bl b) M1) : CaD X (.type "bool") [d] M Φ := fun P H vs m i pins σ s us I r => by
  obtain ⟨f, fd, ps, F1, hm, hb⟩ := F
  obtain ⟨v, rfl, iv⟩ := i.un1
  obtain ⟨u, rfl, ru⟩ := r.one
  obtain ⟨a, dx, od, rfl, rfl, J⟩ := inst_of ho m iv I ru
  obtain ⟨mm, Fr1⟩ := I.fr
  refine bool_any (PySem.W.truthy_K Fr1 I.ok.mod.kin J hm.at_ hm.fn (thn (run_me2 (vs := [.ref a]) F1 hr hb I (.cons rfl .nil) (.cons iv .nil) m h) fun u2 s2 ⟨v2, H2, I2, r2, d2, M2, P2, ⟨b, eb, q⟩, e2, m2, i2⟩ => ?_))
  subst eb
  cases i2
  cases r2
  exact ⟨.bl b, H2, I2, rfl, _, M2, P2, q, e2, m2, .bl⟩
end
end Dt

set_option Elab.async false
set_option linter.all false
set_option maxRecDepth 100000
set_option maxHeartbeats 1000000

namespace Sl57
open PySem PySem.Spec PyProof.Rows L2 Dt
def top (i : Nat) : Stmt := PySem.Challenge.pw_slipsights_k28_spans_stepped_and_sighted.main.body.getD i (.Pass ⟨0, 0, 0, 0⟩)
set_option hygiene false
local macro_rules | `(tactic| walk_at "op") => `(tactic| (first
  | refine od_add ?_ | refine od_sub ?_ | refine od_lt ?_ | refine od_le ?_ | refine od_gt ?_ | refine od_ge ?_ | refine od_eq ?_ | refine od_ne ?_ | refine od_is ?_ | refine od_isn ?_
  | refine od_eqS ?_ | refine od_neS ?_ | refine od_eqB ?_ | refine od_neB ?_))
local macro_rules | `(tactic| walk_at "dead") => `(tactic| (first
  | (cases hb; done)
  | (exact absurd (show false = true from hb) (by decide))
  | (exact absurd (show true = false from hb) (by decide))
  | (exact absurd hb (by decide))
  | (exfalso; simp only [decide_eq_true_eq, decide_eq_false_iff_not, Bool.not_eq_true', Bool.not_eq_false'] at hb; omega)))
local macro_rules | `(tactic| walk_at "tidy") => `(tactic| (try simp only [decide_eq_true_eq, decide_eq_false_iff_not, Bool.not_eq_true', Bool.not_eq_false'] at hb))
local macro_rules | `(tactic| walk_at "truth") => `(tactic| (first | refine tr_bl ?_ | refine tr_lst ?_ | refine tr_tup ?_ | refine tr_non ?_ | refine tr_int ?_))
local macro_rules | `(tactic| walk_at "ix") => `(tactic| (first
  | refine ix_tup (j := 0) rfl rfl ?_ | refine ix_tup (j := 1) rfl rfl ?_ | refine ix_tup (j := 2) rfl rfl ?_
  | refine ix_lst (j := 0) rfl rfl ?_ | refine ix_lst (j := 1) rfl rfl ?_ | refine ix_lst (j := 2) rfl rfl ?_
  | refine ix_own (k := 0) (j := 0) rfl rfl rfl ?_
  | refine ix_own (k := 0) (j := 1) rfl rfl rfl ?_
  | refine ix_own (k := 0) (j := 2) rfl rfl rfl ?_
  | refine ix_own (k := 1) (j := 0) rfl rfl rfl ?_
  | refine ix_own (k := 1) (j := 1) rfl rfl rfl ?_
  | refine ix_own (k := 1) (j := 2) rfl rfl rfl ?_
  | refine ix_own (k := 2) (j := 0) rfl rfl rfl ?_
  | refine ix_own (k := 2) (j := 1) rfl rfl rfl ?_
  | refine ix_own (k := 2) (j := 2) rfl rfl rfl ?_
  | refine ix_own (k := 3) (j := 0) rfl rfl rfl ?_
  | refine ix_own (k := 3) (j := 1) rfl rfl rfl ?_
  | refine ix_own (k := 3) (j := 2) rfl rfl rfl ?_
  | refine ix_own (k := 4) (j := 0) rfl rfl rfl ?_
  | refine ix_own (k := 4) (j := 1) rfl rfl rfl ?_
  | refine ix_own (k := 4) (j := 2) rfl rfl rfl ?_
  | refine ix_own (k := 5) (j := 0) rfl rfl rfl ?_
  | refine ix_own (k := 5) (j := 1) rfl rfl rfl ?_
  | refine ix_own (k := 5) (j := 2) rfl rfl rfl ?_
  | refine ix_own (k := 6) (j := 0) rfl rfl rfl ?_
  | refine ix_own (k := 6) (j := 1) rfl rfl rfl ?_
  | refine ix_own (k := 6) (j := 2) rfl rfl rfl ?_
  | refine ix_own (k := 7) (j := 0) rfl rfl rfl ?_
  | refine ix_own (k := 7) (j := 1) rfl rfl rfl ?_
  | refine ix_own (k := 7) (j := 2) rfl rfl rfl ?_
  | refine ix_own (k := 8) (j := 0) rfl rfl rfl ?_
  | refine ix_own (k := 8) (j := 1) rfl rfl rfl ?_
  | refine ix_own (k := 8) (j := 2) rfl rfl rfl ?_
  | refine ix_own (k := 9) (j := 0) rfl rfl rfl ?_
  | refine ix_own (k := 9) (j := 1) rfl rfl rfl ?_
  | refine ix_own (k := 9) (j := 2) rfl rfl rfl ?_
  | refine ix_own (k := 10) (j := 0) rfl rfl rfl ?_
  | refine ix_own (k := 10) (j := 1) rfl rfl rfl ?_
  | refine ix_own (k := 10) (j := 2) rfl rfl rfl ?_
  | refine ix_own (k := 11) (j := 0) rfl rfl rfl ?_
  | refine ix_own (k := 11) (j := 1) rfl rfl rfl ?_
  | refine ix_own (k := 11) (j := 2) rfl rfl rfl ?_
  | refine ix_own (k := 12) (j := 0) rfl rfl rfl ?_
  | refine ix_own (k := 12) (j := 1) rfl rfl rfl ?_
  | refine ix_own (k := 12) (j := 2) rfl rfl rfl ?_
  | refine ix_own (k := 13) (j := 0) rfl rfl rfl ?_
  | refine ix_own (k := 13) (j := 1) rfl rfl rfl ?_
  | refine ix_own (k := 13) (j := 2) rfl rfl rfl ?_))
local macro_rules | `(tactic| walk_at "seti") => `(tactic| (first
  | refine ⟨0, 0, _, _, _, rfl, rfl, rfl, rfl, of_decide_eq_true rfl, ?_⟩
  | refine ⟨0, 1, _, _, _, rfl, rfl, rfl, rfl, of_decide_eq_true rfl, ?_⟩
  | refine ⟨0, 2, _, _, _, rfl, rfl, rfl, rfl, of_decide_eq_true rfl, ?_⟩
  | refine ⟨1, 0, _, _, _, rfl, rfl, rfl, rfl, of_decide_eq_true rfl, ?_⟩
  | refine ⟨1, 1, _, _, _, rfl, rfl, rfl, rfl, of_decide_eq_true rfl, ?_⟩
  | refine ⟨1, 2, _, _, _, rfl, rfl, rfl, rfl, of_decide_eq_true rfl, ?_⟩
  | refine ⟨2, 0, _, _, _, rfl, rfl, rfl, rfl, of_decide_eq_true rfl, ?_⟩
  | refine ⟨2, 1, _, _, _, rfl, rfl, rfl, rfl, of_decide_eq_true rfl, ?_⟩
  | refine ⟨2, 2, _, _, _, rfl, rfl, rfl, rfl, of_decide_eq_true rfl, ?_⟩
  | refine ⟨3, 0, _, _, _, rfl, rfl, rfl, rfl, of_decide_eq_true rfl, ?_⟩
  | refine ⟨3, 1, _, _, _, rfl, rfl, rfl, rfl, of_decide_eq_true rfl, ?_⟩
  | refine ⟨3, 2, _, _, _, rfl, rfl, rfl, rfl, of_decide_eq_true rfl, ?_⟩
  | refine ⟨4, 0, _, _, _, rfl, rfl, rfl, rfl, of_decide_eq_true rfl, ?_⟩
  | refine ⟨4, 1, _, _, _, rfl, rfl, rfl, rfl, of_decide_eq_true rfl, ?_⟩
  | refine ⟨4, 2, _, _, _, rfl, rfl, rfl, rfl, of_decide_eq_true rfl, ?_⟩
  | refine ⟨5, 0, _, _, _, rfl, rfl, rfl, rfl, of_decide_eq_true rfl, ?_⟩
  | refine ⟨5, 1, _, _, _, rfl, rfl, rfl, rfl, of_decide_eq_true rfl, ?_⟩
  | refine ⟨5, 2, _, _, _, rfl, rfl, rfl, rfl, of_decide_eq_true rfl, ?_⟩
  | refine ⟨6, 0, _, _, _, rfl, rfl, rfl, rfl, of_decide_eq_true rfl, ?_⟩
  | refine ⟨6, 1, _, _, _, rfl, rfl, rfl, rfl, of_decide_eq_true rfl, ?_⟩
  | refine ⟨6, 2, _, _, _, rfl, rfl, rfl, rfl, of_decide_eq_true rfl, ?_⟩
  | refine ⟨7, 0, _, _, _, rfl, rfl, rfl, rfl, of_decide_eq_true rfl, ?_⟩
  | refine ⟨7, 1, _, _, _, rfl, rfl, rfl, rfl, of_decide_eq_true rfl, ?_⟩
  | refine ⟨7, 2, _, _, _, rfl, rfl, rfl, rfl, of_decide_eq_true rfl, ?_⟩
  | refine ⟨8, 0, _, _, _, rfl, rfl, rfl, rfl, of_decide_eq_true rfl, ?_⟩
  | refine ⟨8, 1, _, _, _, rfl, rfl, rfl, rfl, of_decide_eq_true rfl, ?_⟩
  | refine ⟨8, 2, _, _, _, rfl, rfl, rfl, rfl, of_decide_eq_true rfl, ?_⟩
  | refine ⟨9, 0, _, _, _, rfl, rfl, rfl, rfl, of_decide_eq_true rfl, ?_⟩
  | refine ⟨9, 1, _, _, _, rfl, rfl, rfl, rfl, of_decide_eq_true rfl, ?_⟩
  | refine ⟨9, 2, _, _, _, rfl, rfl, rfl, rfl, of_decide_eq_true rfl, ?_⟩
  | refine ⟨10, 0, _, _, _, rfl, rfl, rfl, rfl, of_decide_eq_true rfl, ?_⟩
  | refine ⟨10, 1, _, _, _, rfl, rfl, rfl, rfl, of_decide_eq_true rfl, ?_⟩
  | refine ⟨10, 2, _, _, _, rfl, rfl, rfl, rfl, of_decide_eq_true rfl, ?_⟩
  | refine ⟨11, 0, _, _, _, rfl, rfl, rfl, rfl, of_decide_eq_true rfl, ?_⟩
  | refine ⟨11, 1, _, _, _, rfl, rfl, rfl, rfl, of_decide_eq_true rfl, ?_⟩
  | refine ⟨11, 2, _, _, _, rfl, rfl, rfl, rfl, of_decide_eq_true rfl, ?_⟩
  | refine ⟨12, 0, _, _, _, rfl, rfl, rfl, rfl, of_decide_eq_true rfl, ?_⟩
  | refine ⟨12, 1, _, _, _, rfl, rfl, rfl, rfl, of_decide_eq_true rfl, ?_⟩
  | refine ⟨12, 2, _, _, _, rfl, rfl, rfl, rfl, of_decide_eq_true rfl, ?_⟩
  | refine ⟨13, 0, _, _, _, rfl, rfl, rfl, rfl, of_decide_eq_true rfl, ?_⟩
  | refine ⟨13, 1, _, _, _, rfl, rfl, rfl, rfl, of_decide_eq_true rfl, ?_⟩
  | refine ⟨13, 2, _, _, _, rfl, rfl, rfl, rfl, of_decide_eq_true rfl, ?_⟩))
local macro_rules | `(tactic| walk_at "lst") => `(tactic| (first
  | refine cd_list (.inr (.inr ⟨0, _, rfl, rfl⟩)) ?_
  | refine cd_list (.inr (.inr ⟨1, _, rfl, rfl⟩)) ?_
  | refine cd_list (.inr (.inr ⟨2, _, rfl, rfl⟩)) ?_
  | refine cd_list (.inr (.inr ⟨3, _, rfl, rfl⟩)) ?_
  | refine cd_list (.inr (.inr ⟨4, _, rfl, rfl⟩)) ?_
  | refine cd_list (.inr (.inr ⟨5, _, rfl, rfl⟩)) ?_
  | refine cd_list (.inr (.inr ⟨6, _, rfl, rfl⟩)) ?_
  | refine cd_list (.inr (.inr ⟨7, _, rfl, rfl⟩)) ?_
  | refine cd_list (.inr (.inr ⟨8, _, rfl, rfl⟩)) ?_
  | refine cd_list (.inr (.inr ⟨9, _, rfl, rfl⟩)) ?_
  | refine cd_list (.inr (.inr ⟨10, _, rfl, rfl⟩)) ?_
  | refine cd_list (.inr (.inr ⟨11, _, rfl, rfl⟩)) ?_
  | refine cd_list (.inr (.inr ⟨12, _, rfl, rfl⟩)) ?_
  | refine cd_list (.inr (.inr ⟨13, _, rfl, rfl⟩)) ?_))
local macro_rules | `(tactic| walk_at "isi") => `(tactic| (first | refine cd_isi (k := true) rfl (by decide +kernel) ?_ | refine cd_isi (k := false) rfl (by decide +kernel) ?_))
local macro_rules | `(tactic| walk_at "size") => `(tactic| (first
  | exact (show 0 ≤ sizeLine by decide) | exact (show 1 ≤ sizeLine by decide) | exact (show 2 ≤ sizeLine by decide) | exact (show 3 ≤ sizeLine by decide) | exact (show 4 ≤ sizeLine by decide) | exact (show 5 ≤ sizeLine by decide) | exact (show 6 ≤ sizeLine by decide)))

/-! ### words -/
def isInt : D → Bool
  | .int _ => true
  | _ => false
def S_is_integer : DS := fun ds M Φ => ∃ d t, ds = [d] ∧ tyD d = some t ∧ Φ (.bl (isInt d)) M
def tyAll : D → Bool
  | .tup xs => xs.all fun x => (tyD x).isSome
  | _ => true
def areInts : D → Int → Bool
  | .tup xs, n => decide ((xs.length : Int) = n) && xs.all isInt
  | _, _ => false
theorem areInts_yes {xs : List D} {n : Int} (h : (xs.length : Int) = n) : areInts (.tup xs) n = (xs.map isInt).all id := by
  show (decide ((xs.length : Int) = n) && xs.all isInt) = _
  rw [decide_eq_true h, Bool.true_and, List.all_map]
  rfl
theorem areInts_no {xs : List D} {n : Int} (h : ¬ (xs.length : Int) = n) : areInts (.tup xs) n = false := by
  show (decide ((xs.length : Int) = n) && xs.all isInt) = _
  rw [decide_eq_false h, Bool.false_and]
def S_are_integers : DS := fun ds M Φ => ∃ d t n, ds = [d, .int n] ∧ tyD d = some t ∧ tyAll d = true ∧ (∀ xs, d = .tup xs → xs.length < sizeLine) ∧ Φ (.bl (areInts d n)) M
def S_is_cell : DS := fun ds M Φ => ∃ d t, ds = [d] ∧ tyD d = some t ∧ tyAll d = true ∧ (∀ xs, d = .tup xs → xs.length < sizeLine) ∧ Φ (.bl (areInts d 2)) M
def S_greater : DS := fun ds M Φ => ∃ i j : Int, ds = [.int i, .int j] ∧ Φ (.int (max i j)) M
def S_lesser : DS := fun ds M Φ => ∃ i j : Int, ds = [.int i, .int j] ∧ Φ (.int (min i j)) M
theorem use_greater {i j : Int} {M : Mem} {Φ : VP} (q : Φ (.int (max i j)) M) : S_greater [.int i, .int j] M Φ := ⟨i, j, rfl, q⟩
theorem use_lesser {i j : Int} {M : Mem} {Φ : VP} (q : Φ (.int (min i j)) M) : S_lesser [.int i, .int j] M Φ := ⟨i, j, rfl, q⟩
abbrev tp (i j : Int) : D := .tup [.int i, .int j]
theorem use_is_cell {i j : Int} {M : Mem} {Φ : VP} (q : Φ (.bl true) M) : S_is_cell [tp i j] M Φ := ⟨_, _, rfl, rfl, rfl, fun xs e => by cases e; exact (show 2 < sizeLine by decide), q⟩
/-! ### spans -/
structure B3 where
  (b0 b1 p0 p1 e0 e1 : Int)
def tight (b0 b1 p0 p1 e0 e1 : Int) : Option B3 :=
  if b0 > b1 ∨ p0 > p1 ∨ e0 > e1 then none
  else if max b0 (p0 - e1) > min b1 (p1 - e0) then none
  else some ⟨max b0 (p0 - e1), min b1 (p1 - e0), max p0 (max b0 (p0 - e1) + e0), min p1 (min b1 (p1 - e0) + e1),
    max e0 (max p0 (max b0 (p0 - e1) + e0) - min b1 (p1 - e0)), min e1 (min p1 (min b1 (p1 - e0) + e1) - max b0 (p0 - e1))⟩
def tightD : Option B3 → D
  | none => .non
  | some t => .tup [tp t.b0 t.b1, tp t.p0 t.p1, tp t.e0 t.e1]
def S_tightened : DS := fun ds M Φ => ∃ b0 b1 p0 p1 e0 e1 : Int, ds = [tp b0 b1, tp p0 p1, tp e0 e1] ∧ Φ (tightD (tight b0 b1 p0 p1 e0 e1)) M
theorem tight_no {b0 b1 p0 p1 e0 e1 : Int} (h : b0 > b1 ∨ p0 > p1 ∨ e0 > e1) : tight b0 b1 p0 p1 e0 e1 = none := by
  unfold tight
  rw [if_pos h]
theorem tight_low {b0 b1 p0 p1 e0 e1 : Int} (h : max b0 (p0 - e1) > min b1 (p1 - e0)) : tight b0 b1 p0 p1 e0 e1 = none := by
  unfold tight
  rw [if_pos h]
  split <;> rfl
theorem tight_yes {b0 b1 p0 p1 e0 e1 : Int} (h : ¬ (b0 > b1 ∨ p0 > p1 ∨ e0 > e1)) (h2 : ¬ max b0 (p0 - e1) > min b1 (p1 - e0)) : tight b0 b1 p0 p1 e0 e1 = some ⟨max b0 (p0 - e1), min b1 (p1 - e0), max p0 (max b0 (p0 - e1) + e0), min p1 (min b1 (p1 - e0) + e1),
    max e0 (max p0 (max b0 (p0 - e1) + e0) - min b1 (p1 - e0)), min e1 (min p1 (min b1 (p1 - e0) + e1) - max b0 (p0 - e1))⟩ := by
  unfold tight
  rw [if_neg h, if_neg h2]
def sol (low high add most : Int) : Int := (min high (max (low - 1) (most - add)) - low + 1) * (low + min high (max (low - 1) (most - add)) + 2 * add) / 2 + (high - min high (max (low - 1) (most - add))) * most
def Bd (i : Int) : Prop := -(2 ^ 200) < i ∧ i < 2 ^ 200
def S_sum_of_lesser : DS := fun ds M Φ => ∃ low high add most : Int, ds = [.int low, .int high, .int add, .int most] ∧ Bd low ∧ Bd high ∧ Bd add ∧ Bd most ∧ Φ (.int (sol low high add most)) M
theorem mulB {i j : Int} (hi : -(2 ^ 204) < i ∧ i < 2 ^ 204) (hj : -(2 ^ 204) < j ∧ j < 2 ^ 204) : CMulW i j := wide_mul (a := 204) (b := 204) (by omega) (by omega) (by decide) (by decide) (by decide)
/-! ### the class Span -/
structure SpC (K : PySem.W.Frag) (C : Addr) : Prop where
  cls : Cls K C
  nb : NoAttr K C "belief"
  np : NoAttr K C "place"
  ne : NoAttr K C "error"
def flds : Option B3 → List (Str × D)
  | none => [("belief", .non), ("place", .non), ("error", .non)]
  | some t => [("belief", tp t.b0 t.b1), ("place", tp t.p0 t.p1), ("error", tp t.e0 t.e1)]
theorem flds_no {t : Option B3} {m : Str} (h1 : (m == ("belief" : Str)) = false) (h2 : (m == ("place" : Str)) = false) (h3 : (m == ("error" : Str)) = false) : (flds t).lookup m = none := by
  cases t <;> exact lk_there h1 (lk_there h2 (lk_there h3 lk_nil))
def spanD (C : Addr) (t : Option B3) : D := .obj C (flds t)
def S_init (C : Addr) : DS := fun ds M Φ => ∃ (l : Addr) (b0 b1 p0 p1 e0 e1 : Int) (M' : Mem), ds = [.adr l, tp b0 b1, tp p0 p1, tp e0 e1] ∧ M = (l, .ins C []) :: M' ∧ Φ .non ((l, .ins C (flds (tight b0 b1 p0 p1 e0 e1))) :: M')
def S_bool (C : Addr) : DS := fun ds M Φ => ∃ t, ds = [spanD C t] ∧ Φ (.bl t.isSome) M
theorem use_tightened {b0 b1 p0 p1 e0 e1 : Int} {M : Mem} {Φ : VP} (q : Φ (tightD (tight b0 b1 p0 p1 e0 e1)) M) : S_tightened [tp b0 b1, tp p0 p1, tp e0 e1] M Φ := ⟨b0, b1, p0, p1, e0, e1, rfl, q⟩
theorem use_sol {a b c d : Int} {M : Mem} {Φ : VP} (ha : Bd a) (hb : Bd b) (hc : Bd c) (hd : Bd d) (q : Φ (.int (sol a b c d)) M) : S_sum_of_lesser [.int a, .int b, .int c, .int d] M Φ := ⟨a, b, c, d, rfl, ha, hb, hc, hd, q⟩
theorem use_mk {C : Addr} {b0 b1 p0 p1 e0 e1 : Int} {M1 : Mem} {Φ : VP} (q : Φ (spanD C (tight b0 b1 p0 p1 e0 e1)) M1) : ∀ l, S_init C (.adr l :: [tp b0 b1, tp p0 p1, tp e0 e1]) ((l, .ins C []) :: M1) fun r M2 => r = .non ∧ ∃ fs M3, M2 = (l, .ins C fs) :: M3 ∧ Φ (.obj C fs) M3 :=
  fun l => ⟨l, b0, b1, p0, p1, e0, e1, M1, rfl, rfl, rfl, _, _, rfl, q⟩
theorem wmkS {X : Cx} {Γ : Sl} {M : Mem} {Φ : VP} {e : Expr} {es : List Expr} {pos p : Pos} {C : Addr} (hM : HasMk X.prog X.w X.K X.mg X.base 4 C "Span" (S_init C)) (hr : Room 5 X.A)
    (h : WA X Γ M (e :: es) fun ds M1 => ∃ b0 b1 p0 p1 e0 e1 : Int, ds = [tp b0 b1, tp p0 p1, tp e0 e1] ∧ Φ (spanD C (tight b0 b1 p0 p1 e0 e1)) M1)
    (hg : Gl X "Span" := by rfl) (hdb : (("Span" : Str) == ("__debug__" : Str)) = false := by decide) (he : starEach (e :: es) X.env = (false, eval e X.env) :: starEach es X.env := by rfl) (hpl : (backTo pos (starEach es X.env)).any (·.1) = false := by rfl) : WE X Γ M (.Call (.Name "Span" p) (e :: es) [] pos) Φ :=
  wmk hM hr (fun P σ H s m => (h P σ H s m).mono fun vs H1 ⟨ds, M1, P1, ⟨b0, b1, p0, p1, e0, e1, ed, q⟩, z⟩ => ⟨ds, M1, P1, by rw [ed]; exact use_mk q, z⟩) hg hdb he hpl
theorem use_boolN {C : Addr} {M : Mem} {Φ : VP} (q : Φ (.bl false) M) : S_bool C [spanD C none] M Φ := ⟨none, rfl, q⟩
theorem use_boolS {C : Addr} {t : B3} {M : Mem} {Φ : VP} (q : Φ (.bl true) M) : S_bool C [spanD C (some t)] M Φ := ⟨some t, rfl, q⟩
def placesD : Option B3 → Int → D
  | none, _ => .non
  | some t, n => if t.b0 ≤ n ∧ n ≤ t.b1 then tp (max t.p0 (n + t.e0)) (min t.p1 (n + t.e1)) else .non
theorem places_yes {t : B3} {n : Int} (h : t.b0 ≤ n ∧ n ≤ t.b1) : placesD (some t) n = tp (max t.p0 (n + t.e0)) (min t.p1 (n + t.e1)) := if_pos h
theorem places_no {t : B3} {n : Int} (h : ¬ (t.b0 ≤ n ∧ n ≤ t.b1)) : placesD (some t) n = .non := if_neg h
def S_places_at (C : Addr) : DS := fun ds M Φ => ∃ t n, ds = [spanD C t, .int n] ∧ Φ (placesD t n) M
theorem use_places {C : Addr} {t : Option B3} {n : Int} {M : Mem} {Φ : VP} (q : Φ (placesD t n) M) : S_places_at C [spanD C t, .int n] M Φ := ⟨t, n, rfl, q⟩
def inB (t : B3) (i j : Int) : Bool := decide (t.b0 ≤ i ∧ i ≤ t.b1 ∧ max t.p0 (i + t.e0) ≤ j ∧ j ≤ min t.p1 (i + t.e1))
def inSpan : Option B3 → D → Bool
  | some t, .tup [.int i, .int j] => inB t i j
  | _, _ => false
theorem areInts2 {d : D} : (∃ i j, d = tp i j) ∨ areInts d 2 = false := by
  cases d with
  | tup xs =>
    by_cases h : ((xs.length : Nat) : Int) = 2
    · rw [areInts_yes h]
      match xs, h with
      | [x, y], _ =>
        cases x <;> cases y <;> first | exact .inl ⟨_, _, rfl⟩ | exact .inr rfl
    · exact .inr (areInts_no h)
  | _ => exact .inr rfl
theorem inSpan_no {t : Option B3} {d : D} (h : areInts d 2 = false) : inSpan t d = false := by
  unfold inSpan
  split
  · cases h
  · rfl
def S_contains (C : Addr) : DS := fun ds M Φ => ∃ t d ty, ds = [spanD C t, d] ∧ tyD d = some ty ∧ tyAll d = true ∧ (∀ xs, d = .tup xs → xs.length < sizeLine) ∧ Φ (.bl (inSpan t d)) M
theorem use_contains {C : Addr} {t : Option B3} {i j : Int} {M : Mem} {Φ : VP} (q : Φ (.bl (inSpan t (tp i j))) M) : S_contains C [spanD C t, tp i j] M Φ := ⟨t, _, _, rfl, rfl, rfl, fun xs e => by cases e; exact (show 2 < sizeLine by decide), q⟩
def tot : Option B3 → Int
  | none => 0
  | some t => sol t.b0 t.b1 t.e1 t.p1 - -sol (-t.b1) (-t.b0) (-t.e0) (-t.p0) + t.b1 - t.b0 + 1
def B3.bd (t : B3) : Prop := Bd t.b0 ∧ Bd t.b1 ∧ Bd t.p0 ∧ Bd t.p1 ∧ Bd t.e0 ∧ Bd t.e1
theorem Bd.neg {i : Int} (h : Bd i) : Bd (-i) := ⟨by have := h.2; omega, by have := h.1; omega⟩
def S_total (C : Addr) : DS := fun ds M Φ => ∃ t, ds = [spanD C t] ∧ (∀ u, t = some u → u.bd) ∧ Φ (.int (tot t)) M
theorem use_total {C : Addr} {t : Option B3} {M : Mem} {Φ : VP} (hb : ∀ u, t = some u → u.bd) (q : Φ (.int (tot t)) M) : S_total C [spanD C t] M Φ := ⟨t, rfl, hb, q⟩
def optD : Option Int → D
  | none => .non
  | some i => .int i
def lowB (p : Int) : Option Int → Int
  | none => p
  | some i => max p i
def highB (p : Int) : Option Int → Int
  | none => p
  | some i => min p i
def limP (t : Option B3) (lo hi : Option Int) : Option B3 := match t with
  | none => none
  | some t => tight t.b0 t.b1 (lowB t.p0 lo) (highB t.p1 hi) t.e0 t.e1
def limB (t : Option B3) (lo hi : Option Int) : Option B3 := match t with
  | none => none
  | some t => tight (lowB t.b0 lo) (highB t.b1 hi) t.p0 t.p1 t.e0 t.e1
def S_limited (C : Addr) : DS := fun ds M Φ => ∃ t lo hi, (ds = [spanD C t, .str "place", optD lo, optD hi] ∧ Φ (spanD C (limP t lo hi)) M) ∨ (ds = [spanD C t, .str "belief", optD lo, optD hi] ∧ Φ (spanD C (limB t lo hi)) M)
theorem use_limP {C : Addr} {t : Option B3} {lo hi : Option Int} {M : Mem} {Φ : VP} (q : Φ (spanD C (limP t lo hi)) M) : S_limited C [spanD C t, .str "place", optD lo, optD hi] M Φ := ⟨t, lo, hi, .inl ⟨rfl, q⟩⟩
theorem use_limB {C : Addr} {t : Option B3} {lo hi : Option Int} {M : Mem} {Φ : VP} (q : Φ (spanD C (limB t lo hi)) M) : S_limited C [spanD C t, .str "belief", optD lo, optD hi] M Φ := ⟨t, lo, hi, .inr ⟨rfl, q⟩⟩
def stepT (t : Option B3) (by_ lo hi : Int) : Option B3 := match t with
  | none => none
  | some t => tight (t.b0 + by_) (t.b1 + by_) (t.p0 + by_ + lo) (t.p1 + by_ + hi) (t.e0 + lo) (t.e1 + hi)
def S_stepped (C : Addr) : DS := fun ds M Φ => ∃ t b lo hi, ds = [spanD C t, .int b, .int lo, .int hi] ∧ Φ (spanD C (stepT t b lo hi)) M
theorem use_stepped {C : Addr} {t : Option B3} {b lo hi : Int} {M : Mem} {Φ : VP} (q : Φ (spanD C (stepT t b lo hi)) M) : S_stepped C [spanD C t, .int b, .int lo, .int hi] M Φ := ⟨t, b, lo, hi, rfl, q⟩
def blurT (t : Option B3) (b : Int) : Option B3 := match t with
  | none => none
  | some u => tight (u.p0 - b) (u.p1 + b) u.p0 u.p1 (-b) b
def sightT (t : Option B3) (lo hi : Option Int) (b : Int) : Option B3 := blurT (limP t lo hi) b
def S_sighted (C : Addr) : DS := fun ds M Φ => ∃ t lo hi b, ds = [spanD C t, optD lo, optD hi, .int b] ∧ Φ (spanD C (sightT t lo hi b)) M
theorem use_sighted {C : Addr} {t : Option B3} {lo hi : Option Int} {b : Int} {M : Mem} {Φ : VP} (q : Φ (spanD C (sightT t lo hi b)) M) : S_sighted C [spanD C t, optD lo, optD hi, .int b] M Φ := ⟨t, lo, hi, b, rfl, q⟩
def cands (t u : B3) : List (Option B3) :=
  [tight t.b0 (min t.b1 (u.b0 - 1)) t.p0 t.p1 t.e0 t.e1,
   tight (max (max t.b0 u.b0) (u.b1 + 1)) t.b1 t.p0 t.p1 t.e0 t.e1,
   tight (max t.b0 u.b0) (min t.b1 u.b1) t.p0 (min t.p1 (u.p0 - 1)) t.e0 t.e1,
   tight (max t.b0 u.b0) (min t.b1 u.b1) (max (max t.p0 u.p0) (u.p1 + 1)) t.p1 t.e0 t.e1,
   tight (max t.b0 u.b0) (min t.b1 u.b1) (max t.p0 u.p0) (min t.p1 u.p1) t.e0 (min t.e1 (u.e0 - 1)),
   tight (max t.b0 u.b0) (min t.b1 u.b1) (max t.p0 u.p0) (min t.p1 u.p1) (max (max t.e0 u.e0) (u.e1 + 1)) t.e1]
def lessT : Option B3 → Option B3 → List B3
  | none, _ => []
  | some t, none => [t]
  | some t, some u => (cands t u).filterMap id
def S_less (C : Addr) : DS := fun ds M Φ => ∃ t u, ds = [spanD C t, spanD C u] ∧ Φ (.tup ((lessT t u).map fun t => spanD C (some t))) M
theorem use_less {C : Addr} {t u : Option B3} {M : Mem} {Φ : VP} (q : Φ (.tup ((lessT t u).map fun t => spanD C (some t))) M) : S_less C [spanD C t, spanD C u] M Φ := ⟨t, u, rfl, q⟩
def spOk : D → Bool
  | .obj _ ((_, .non) :: _) => false
  | _ => true
theorem spOk_N {C : Addr} : spOk (spanD C none) = false := rfl
theorem spOk_S {C : Addr} {t : B3} : spOk (spanD C (some t)) = true := rfl
theorem less_list {C : Addr} : ∀ L : List (Option B3), ((L.map (spanD C)).filter spOk).map (fun y => y) = (L.filterMap id).map fun t => spanD C (some t)
  | [] => rfl
  | none :: L => by
    have ih := less_list (C := C) L
    rw [List.map_cons, List.filter_cons, if_neg (by rw [spOk_N]; decide), ih]
    rfl
  | some t :: L => by
    have ih := less_list (C := C) L
    rw [List.map_cons, List.filter_cons, if_pos spOk_S, List.map_cons, ih]
    rfl
def andT : Option B3 → Option B3 → Option B3
  | some t, some u => tight (max t.b0 u.b0) (min t.b1 u.b1) (max t.p0 u.p0) (min t.p1 u.p1) (max t.e0 u.e0) (min t.e1 u.e1)
  | _, _ => none
def S_and (C : Addr) : DS := fun ds M Φ => ∃ t u, ds = [spanD C t, spanD C u] ∧ Φ (spanD C (andT t u)) M
theorem use_and {C : Addr} {t u : Option B3} {M : Mem} {Φ : VP} (q : Φ (spanD C (andT t u)) M) : S_and C [spanD C t, spanD C u] M Φ := ⟨t, u, rfl, q⟩
def leB (t u : B3) : Bool := decide (u.b0 ≤ t.b0 ∧ t.b1 ≤ u.b1 ∧ u.p0 ≤ t.p0 ∧ t.p1 ≤ u.p1 ∧ u.e0 ≤ t.e0 ∧ t.e1 ≤ u.e1)
def leT : Option B3 → Option B3 → Bool
  | none, _ => true
  | some _, none => false
  | some t, some u => leB t u
theorem leT_yes {t u : B3} (h : u.b0 ≤ t.b0 ∧ t.b1 ≤ u.b1 ∧ u.p0 ≤ t.p0 ∧ t.p1 ≤ u.p1 ∧ u.e0 ≤ t.e0 ∧ t.e1 ≤ u.e1) : leT (some t) (some u) = true := decide_eq_true h
theorem leT_no {t u : B3} (h : ¬ (u.b0 ≤ t.b0 ∧ t.b1 ≤ u.b1 ∧ u.p0 ≤ t.p0 ∧ t.p1 ≤ u.p1 ∧ u.e0 ≤ t.e0 ∧ t.e1 ≤ u.e1)) : leT (some t) (some u) = false := decide_eq_false h
def S_le (C : Addr) : DS := fun ds M Φ => ∃ t u, ds = [spanD C t, spanD C u] ∧ Φ (.bl (leT t u)) M
theorem use_le {C : Addr} {t u : Option B3} {M : Mem} {Φ : VP} (q : Φ (.bl (leT t u)) M) : S_le C [spanD C t, spanD C u] M Φ := ⟨t, u, rfl, q⟩
def ltT (t u : Option B3) : Bool := leT t u && !leT u t
def S_lt (C : Addr) : DS := fun ds M Φ => ∃ t u, ds = [spanD C t, spanD C u] ∧ Φ (.bl (ltT t u)) M
def S_ge (C : Addr) : DS := fun ds M Φ => ∃ t u, ds = [spanD C t, spanD C u] ∧ Φ (.bl (leT u t)) M
def S_gt (C : Addr) : DS := fun ds M Φ => ∃ t u, ds = [spanD C t, spanD C u] ∧ Φ (.bl (ltT u t)) M
section
variable {P : Program} {w : World} {K : PySem.W.Frag} {mg : Str → Option Value} {base : Heap}
abbrev s_is_integer : Stmt := top 4
theorem sc_is_integer : FnScope ["value"] ["value"] (defScope s_is_integer) := ⟨rfl, rfl, rfl, by decide +kernel, rfl, by decide +kernel, by decide +kernel⟩
theorem ok_is_integer {f : Addr} {fd : FuncData} (F : FunD K "is_integer" "is_integer" (defArgs s_is_integer) (defBody s_is_integer) (defScope s_is_integer) [] [] f fd) (B : Bf mg) : FnOk P w K mg base CX0 1 f fd ["value"] (spOf K S_is_integer) := by
  refine fn_data (k := 0) F sc_is_integer (fun ds M Φ h => ?_) (fun cdv A outer s H E ds M Φ hr h => ?_)
  · obtain ⟨d, t, rfl, ht, q⟩ := h
    all_goals rfl
  · obtain ⟨d, t, rfl, ht, q⟩ := h
    cases d with
    | ty n => cases ht
    | obj C fs => cases ht
    | adr a => cases ht
    | _ =>
      refine ws_ret ?_
      refine we_and ?_
      refine wcB B.isi boot_isinstance ?_
      refine wa_cons ?_
      refine wv 0 rfl ?_
      refine wa_cons ?_
      refine wbt B.int boot_int ?_
      refine wa_nil ?_
      walk_at "isi"
      refine ⟨_, rfl, fun hb => ?_, fun hb => ?_⟩
      · first
        | (walk_at "dead")
        | (
          walk_at "tidy"
          refine we_one ?_
          refine wnotv ?_
          refine wcB B.isi boot_isinstance ?_
          refine wa_cons ?_
          refine wv 0 rfl ?_
          refine wa_cons ?_
          refine wbt B.bool boot_bool ?_
          refine wa_nil ?_
          walk_at "isi"
          walk_at "truth"
          exact q)
      · first
        | (walk_at "dead")
        | (
          walk_at "tidy"
          exact q)
abbrev s_are_integers : Stmt := top 5
theorem sc_are_integers : FnScope ["value", "many", "one"] ["value", "many"] (defScope s_are_integers) := ⟨rfl, rfl, rfl, by decide +kernel, rfl, by decide +kernel, by decide +kernel⟩
theorem ok_are_integers {f : Addr} {fd : FuncData} (F : FunD K "are_integers" "are_integers" (defArgs s_are_integers) (defBody s_are_integers) (defScope s_are_integers) [] [] f fd) (B : Bf mg) (hI : HasFn P w K mg base 1 "is_integer" S_is_integer) : FnOk P w K mg base CX0 2 f fd ["value", "many"] (spOf K S_are_integers) := by
  refine fn_data (k := 1) F sc_are_integers (fun ds M Φ h => ?_) (fun cdv A outer s H E ds M Φ hr h => ?_)
  · obtain ⟨d, t, n, rfl, ht, ha, hl, q⟩ := h
    all_goals rfl
  · obtain ⟨d, t, n, rfl, ht, ha, hl, q⟩ := h
    cases d with
    | ty n => cases ht
    | obj C fs => cases ht
    | adr a => cases ht
    | tup xs =>
      refine ws_ret ?_
      refine we_and ?_
      refine wcB B.isi boot_isinstance ?_
      refine wa_cons ?_
      refine wv 0 rfl ?_
      refine wa_cons ?_
      refine wbt B.tuple boot_tuple ?_
      refine wa_nil ?_
      walk_at "isi"
      refine ⟨_, rfl, fun hb => ?_, fun hb => ?_⟩
      · first
        | (walk_at "dead")
        | (
          walk_at "tidy"
          refine we_and ?_
          refine we_cmp ?_ (nomark _)
          refine wcB B.len boot_len ?_
          refine wa_cons ?_
          refine wv 0 rfl ?_
          refine wa_nil ?_
          refine cd_len_tup ?_
          refine wv 1 rfl ?_
          walk_at "op"
          refine ⟨_, rfl, fun hb => ?_, fun hb => ?_⟩
          · first
            | (walk_at "dead")
            | (
              walk_at "tidy"
              refine we_one ?_
              refine wcB B.all bt_all ?_
              refine wa_cons ?_
              refine lcMapT (own := [("one", 2)]) (j := 2) sc_are_integers.nd ?_ (blkOk_by (N := ["value", "many", "one"]) (sc := defScope s_are_integers) (by decide +kernel)) (fun _ _ _ _ _ => pg_name (i := 2) sc_are_integers.nd rfl (Or.inl rfl))
              refine wv 0 rfl ?_
              refine ⟨_, fun y => .bl (isInt y), rfl, hl _ rfl, fun i y hy l out s H C cl fp => ?_, ?_⟩
              · refine wcf hI (hr.mono (by decide)) ?_
                refine wa_cons ?_
                refine wv 2 rfl ?_
                refine wa_nil ?_
                have hm := List.all_eq_true.mp ha y (List.mem_of_getElem? hy)
                obtain ⟨t', ht'⟩ := Option.isSome_iff_exists.mp hm
                exact ⟨y, t', rfl, ht', rfl, rfl⟩
              have em : (xs.map fun y => D.bl (isInt y)) = (xs.map isInt).map D.bl := by rw [List.map_map]; rfl
              rw [em]
              refine wa_nil ?_
              refine cd_all rfl ?_
              first
              | exact q
              | (rw [areInts_yes hb] at q; exact q)
              | (rw [areInts_no hb] at q; exact q))
          · first
            | (walk_at "dead")
            | (
              walk_at "tidy"
              first
              | exact q
              | (rw [areInts_yes hb] at q; exact q)
              | (rw [areInts_no hb] at q; exact q)))
      · first
        | (walk_at "dead")
        | (
          walk_at "tidy"
          first
          | exact q
          | (rw [areInts_yes hb] at q; exact q)
          | (rw [areInts_no hb] at q; exact q))
    | _ =>
      refine ws_ret ?_
      refine we_and ?_
      refine wcB B.isi boot_isinstance ?_
      refine wa_cons ?_
      refine wv 0 rfl ?_
      refine wa_cons ?_
      refine wbt B.tuple boot_tuple ?_
      refine wa_nil ?_
      walk_at "isi"
      refine ⟨_, rfl, fun hb => ?_, fun hb => ?_⟩
      · first
        | (walk_at "dead")
        | (
          walk_at "tidy"
          refine we_and ?_
          refine we_cmp ?_ (nomark _)
          refine wcB B.len boot_len ?_
          refine wa_cons ?_
          refine wv 0 rfl ?_
          refine wa_nil ?_
          refine cd_len_tup ?_
          refine wv 1 rfl ?_
          walk_at "op"
          refine ⟨_, rfl, fun hb => ?_, fun hb => ?_⟩
          · first
            | (walk_at "dead")
            | (
              walk_at "tidy"
              refine we_one ?_
              refine wcB B.all bt_all ?_
              refine wa_cons ?_
              refine lcMapT (own := [("one", 2)]) (j := 2) sc_are_integers.nd ?_ (blkOk_by (N := ["value", "many", "one"]) (sc := defScope s_are_integers) (by decide +kernel)) (fun _ _ _ _ _ => pg_name (i := 2) sc_are_integers.nd rfl (Or.inl rfl))
              refine wv 0 rfl ?_
              refine ⟨_, fun y => .bl (isInt y), rfl, hl _ rfl, fun i y hy l out s H C cl fp => ?_, ?_⟩
              · refine wcf hI (hr.mono (by decide)) ?_
                refine wa_cons ?_
                refine wv 2 rfl ?_
                refine wa_nil ?_
                have hm := List.all_eq_true.mp ha y (List.mem_of_getElem? hy)
                obtain ⟨t', ht'⟩ := Option.isSome_iff_exists.mp hm
                exact ⟨y, t', rfl, ht', rfl, rfl⟩
              have em : (xs.map fun y => D.bl (isInt y)) = (xs.map isInt).map D.bl := by rw [List.map_map]; rfl
              rw [em]
              refine wa_nil ?_
              refine cd_all rfl ?_
              first
              | exact q
              | (rw [areInts_yes hb] at q; exact q)
              | (rw [areInts_no hb] at q; exact q))
          · first
            | (walk_at "dead")
            | (
              walk_at "tidy"
              first
              | exact q
              | (rw [areInts_yes hb] at q; exact q)
              | (rw [areInts_no hb] at q; exact q)))
      · first
        | (walk_at "dead")
        | (
          walk_at "tidy"
          first
          | exact q
          | (rw [areInts_yes hb] at q; exact q)
          | (rw [areInts_no hb] at q; exact q))
abbrev s_is_cell : Stmt := top 6
theorem sc_is_cell : FnScope ["value"] ["value"] (defScope s_is_cell) := ⟨rfl, rfl, rfl, by decide +kernel, rfl, by decide +kernel, by decide +kernel⟩
theorem ok_is_cell {f : Addr} {fd : FuncData} (F : FunD K "is_cell" "is_cell" (defArgs s_is_cell) (defBody s_is_cell) (defScope s_is_cell) [] [] f fd) (hA : HasFn P w K mg base 2 "are_integers" S_are_integers) : FnOk P w K mg base CX0 3 f fd ["value"] (spOf K S_is_cell) := by
  refine fn_data (k := 2) F sc_is_cell (fun ds M Φ h => ?_) (fun cdv A outer s H E ds M Φ hr h => ?_)
  · obtain ⟨d, t, rfl, ht, ha, hl, q⟩ := h
    all_goals rfl
  · obtain ⟨d, t, rfl, ht, ha, hl, q⟩ := h
    refine ws_ret ?_
    refine wcf hA (hr.mono (by decide)) ?_
    refine wa_cons ?_
    refine wv 0 rfl ?_
    refine wa_cons ?_
    refine we_int ?_
    refine wa_nil ?_
    exact ⟨d, t, 2, rfl, ht, ha, hl, q⟩
    skip
abbrev s_greater : Stmt := top 8
theorem sc_greater : FnScope ["one", "other"] ["one", "other"] (defScope s_greater) := ⟨rfl, rfl, rfl, by decide +kernel, rfl, by decide +kernel, by decide +kernel⟩
theorem ok_greater {f : Addr} {fd : FuncData} (F : FunD K "greater" "greater" (defArgs s_greater) (defBody s_greater) (defScope s_greater) [] [] f fd)  : FnOk P w K mg base CX0 1 f fd ["one", "other"] (spOf K S_greater) := by
  refine fn_data (k := 0) F sc_greater (fun ds M Φ h => ?_) (fun cdv A outer s H E ds M Φ hr h => ?_)
  · obtain ⟨i, j, rfl, q⟩ := h
    all_goals rfl
  · obtain ⟨i, j, rfl, q⟩ := h
    refine ws_ret ?_
    refine we_if ?_
    refine wt_cmp ?_ (nomark _)
    refine wv 0 rfl ?_
    refine wv 1 rfl ?_
    walk_at "op"
    refine ⟨_, rfl, ?_⟩
    refine ⟨fun hb => ?_, fun hb => ?_⟩
    · first
      | (walk_at "dead")
      | (
        walk_at "tidy"
        refine wv 0 rfl ?_
        first
        | (rw [show max i j = i by omega] at q; exact q)
        | (rw [show max i j = j by omega] at q; exact q))
    · first
      | (walk_at "dead")
      | (
        walk_at "tidy"
        refine wv 1 rfl ?_
        first
        | (rw [show max i j = i by omega] at q; exact q)
        | (rw [show max i j = j by omega] at q; exact q))
abbrev s_lesser : Stmt := top 9
theorem sc_lesser : FnScope ["one", "other"] ["one", "other"] (defScope s_lesser) := ⟨rfl, rfl, rfl, by decide +kernel, rfl, by decide +kernel, by decide +kernel⟩
theorem ok_lesser {f : Addr} {fd : FuncData} (F : FunD K "lesser" "lesser" (defArgs s_lesser) (defBody s_lesser) (defScope s_lesser) [] [] f fd)  : FnOk P w K mg base CX0 1 f fd ["one", "other"] (spOf K S_lesser) := by
  refine fn_data (k := 0) F sc_lesser (fun ds M Φ h => ?_) (fun cdv A outer s H E ds M Φ hr h => ?_)
  · obtain ⟨i, j, rfl, q⟩ := h
    all_goals rfl
  · obtain ⟨i, j, rfl, q⟩ := h
    refine ws_ret ?_
    refine we_if ?_
    refine wt_cmp ?_ (nomark _)
    refine wv 0 rfl ?_
    refine wv 1 rfl ?_
    walk_at "op"
    refine ⟨_, rfl, ?_⟩
    refine ⟨fun hb => ?_, fun hb => ?_⟩
    · first
      | (walk_at "dead")
      | (
        walk_at "tidy"
        refine wv 0 rfl ?_
        first
        | (rw [show min i j = i by omega] at q; exact q)
        | (rw [show min i j = j by omega] at q; exact q))
    · first
      | (walk_at "dead")
      | (
        walk_at "tidy"
        refine wv 1 rfl ?_
        first
        | (rw [show min i j = i by omega] at q; exact q)
        | (rw [show min i j = j by omega] at q; exact q))
abbrev s_tightened : Stmt := top 10
theorem sc_tightened : FnScope ["belief", "place", "error", "low", "high"] ["belief", "place", "error"] (defScope s_tightened) := ⟨rfl, rfl, rfl, by decide +kernel, rfl, by decide +kernel, by decide +kernel⟩
theorem ok_tightened {f : Addr} {fd : FuncData} (F : FunD K "tightened" "tightened" (defArgs s_tightened) (defBody s_tightened) (defScope s_tightened) [] [] f fd) (hG : HasFn P w K mg base 1 "greater" S_greater) (hL : HasFn P w K mg base 1 "lesser" S_lesser) : FnOk P w K mg base CX0 2 f fd ["belief", "place", "error"] (spOf K S_tightened) := by
  refine fn_data (k := 1) F sc_tightened (fun ds M Φ h => ?_) (fun cdv A outer s H E ds M Φ hr h => ?_)
  · obtain ⟨b0, b1, p0, p1, e0, e1, rfl, q⟩ := h
    all_goals rfl
  · obtain ⟨b0, b1, p0, p1, e0, e1, rfl, q⟩ := h
    refine ws_if ?_
    refine wt_bool ?_
    refine ww_or ?_
    refine wt_cmp ?_ (nomark _)
    refine we_ix ?_ (fun _ _ => rfl)
    refine wv 0 rfl ?_
    refine we_int ?_
    walk_at "ix"
    refine we_ix ?_ (fun _ _ => rfl)
    refine wv 0 rfl ?_
    refine we_int ?_
    walk_at "ix"
    walk_at "op"
    refine ⟨_, rfl, ?_⟩
    refine ⟨fun hb => ?_, fun hb => ?_⟩
    · first
      | (walk_at "dead")
      | (
        walk_at "tidy"
        refine ⟨fun hb => ?_, fun hb => ?_⟩
        · walk_at "tidy"
          refine ws_ret ?_
          refine we_non ?_
          first
          | (rw [tight_yes (by omega) (by omega)] at q; exact q)
          | (rw [tight_no (by omega)] at q; exact q)
          | (rw [tight_low (by omega)] at q; exact q)
        · walk_at "dead")
    · first
      | (walk_at "dead")
      | (
        walk_at "tidy"
        refine ww_or ?_
        refine wt_cmp ?_ (nomark _)
        refine we_ix ?_ (fun _ _ => rfl)
        refine wv 1 rfl ?_
        refine we_int ?_
        walk_at "ix"
        refine we_ix ?_ (fun _ _ => rfl)
        refine wv 1 rfl ?_
        refine we_int ?_
        walk_at "ix"
        walk_at "op"
        refine ⟨_, rfl, ?_⟩
        refine ⟨fun hb => ?_, fun hb => ?_⟩
        · first
          | (walk_at "dead")
          | (
            walk_at "tidy"
            refine ⟨fun hb => ?_, fun hb => ?_⟩
            · walk_at "tidy"
              refine ws_ret ?_
              refine we_non ?_
              first
              | (rw [tight_yes (by omega) (by omega)] at q; exact q)
              | (rw [tight_no (by omega)] at q; exact q)
              | (rw [tight_low (by omega)] at q; exact q)
            · walk_at "dead")
        · first
          | (walk_at "dead")
          | (
            walk_at "tidy"
            refine ww_or1 ?_
            refine wt_cmp ?_ (nomark _)
            refine we_ix ?_ (fun _ _ => rfl)
            refine wv 2 rfl ?_
            refine we_int ?_
            walk_at "ix"
            refine we_ix ?_ (fun _ _ => rfl)
            refine wv 2 rfl ?_
            refine we_int ?_
            walk_at "ix"
            walk_at "op"
            refine ⟨_, rfl, ?_⟩
            refine ⟨fun hb => ?_, fun hb => ?_⟩
            · first
              | (walk_at "dead")
              | (
                walk_at "tidy"
                refine ws_ret ?_
                refine we_non ?_
                first
                | (rw [tight_yes (by omega) (by omega)] at q; exact q)
                | (rw [tight_no (by omega)] at q; exact q)
                | (rw [tight_low (by omega)] at q; exact q))
            · first
              | (walk_at "dead")
              | (
                walk_at "tidy"
                refine ws_nil ?_
                refine ws_set 3 sc_tightened.nd ?_
                refine wcf hG (hr.mono (by decide)) ?_
                refine wa_cons ?_
                refine we_ix ?_ (fun _ _ => rfl)
                refine wv 0 rfl ?_
                refine we_int ?_
                walk_at "ix"
                refine wa_cons ?_
                refine we_bin ?_
                refine we_ix ?_ (fun _ _ => rfl)
                refine wv 1 rfl ?_
                refine we_int ?_
                walk_at "ix"
                refine we_ix ?_ (fun _ _ => rfl)
                refine wv 2 rfl ?_
                refine we_int ?_
                walk_at "ix"
                walk_at "op"
                refine wa_nil ?_
                refine use_greater ?_
                refine ws_set 4 sc_tightened.nd ?_
                refine wcf hL (hr.mono (by decide)) ?_
                refine wa_cons ?_
                refine we_ix ?_ (fun _ _ => rfl)
                refine wv 0 rfl ?_
                refine we_int ?_
                walk_at "ix"
                refine wa_cons ?_
                refine we_bin ?_
                refine we_ix ?_ (fun _ _ => rfl)
                refine wv 1 rfl ?_
                refine we_int ?_
                walk_at "ix"
                refine we_ix ?_ (fun _ _ => rfl)
                refine wv 2 rfl ?_
                refine we_int ?_
                walk_at "ix"
                walk_at "op"
                refine wa_nil ?_
                refine use_lesser ?_
                refine ws_if ?_
                refine wt_cmp ?_ (nomark _)
                refine wv 3 rfl ?_
                refine wv 4 rfl ?_
                walk_at "op"
                refine ⟨_, rfl, ?_⟩
                refine ⟨fun hb => ?_, fun hb => ?_⟩
                · first
                  | (walk_at "dead")
                  | (
                    walk_at "tidy"
                    refine ws_ret ?_
                    refine we_non ?_
                    first
                    | (rw [tight_yes (by omega) (by omega)] at q; exact q)
                    | (rw [tight_no (by omega)] at q; exact q)
                    | (rw [tight_low (by omega)] at q; exact q))
                · first
                  | (walk_at "dead")
                  | (
                    walk_at "tidy"
                    refine ws_nil ?_
                    refine ws_set 1 sc_tightened.nd ?_
                    refine we_tup ?_
                    refine wa_cons ?_
                    refine wcf hG (hr.mono (by decide)) ?_
                    refine wa_cons ?_
                    refine we_ix ?_ (fun _ _ => rfl)
                    refine wv 1 rfl ?_
                    refine we_int ?_
                    walk_at "ix"
                    refine wa_cons ?_
                    refine we_bin ?_
                    refine wv 3 rfl ?_
                    refine we_ix ?_ (fun _ _ => rfl)
                    refine wv 2 rfl ?_
                    refine we_int ?_
                    walk_at "ix"
                    walk_at "op"
                    refine wa_nil ?_
                    refine use_greater ?_
                    refine wa_cons ?_
                    refine wcf hL (hr.mono (by decide)) ?_
                    refine wa_cons ?_
                    refine we_ix ?_ (fun _ _ => rfl)
                    refine wv 1 rfl ?_
                    refine we_int ?_
                    walk_at "ix"
                    refine wa_cons ?_
                    refine we_bin ?_
                    refine wv 4 rfl ?_
                    refine we_ix ?_ (fun _ _ => rfl)
                    refine wv 2 rfl ?_
                    refine we_int ?_
                    walk_at "ix"
                    walk_at "op"
                    refine wa_nil ?_
                    refine use_lesser ?_
                    refine wa_nil ?_
                    refine ⟨(by walk_at "size"), ?_⟩
                    refine ws_set 2 sc_tightened.nd ?_
                    refine we_tup ?_
                    refine wa_cons ?_
                    refine wcf hG (hr.mono (by decide)) ?_
                    refine wa_cons ?_
                    refine we_ix ?_ (fun _ _ => rfl)
                    refine wv 2 rfl ?_
                    refine we_int ?_
                    walk_at "ix"
                    refine wa_cons ?_
                    refine we_bin ?_
                    refine we_ix ?_ (fun _ _ => rfl)
                    refine wv 1 rfl ?_
                    refine we_int ?_
                    walk_at "ix"
                    refine wv 4 rfl ?_
                    walk_at "op"
                    refine wa_nil ?_
                    refine use_greater ?_
                    refine wa_cons ?_
                    refine wcf hL (hr.mono (by decide)) ?_
                    refine wa_cons ?_
                    refine we_ix ?_ (fun _ _ => rfl)
                    refine wv 2 rfl ?_
                    refine we_int ?_
                    walk_at "ix"
                    refine wa_cons ?_
                    refine we_bin ?_
                    refine we_ix ?_ (fun _ _ => rfl)
                    refine wv 1 rfl ?_
                    refine we_int ?_
                    walk_at "ix"
                    refine wv 3 rfl ?_
                    walk_at "op"
                    refine wa_nil ?_
                    refine use_lesser ?_
                    refine wa_nil ?_
                    refine ⟨(by walk_at "size"), ?_⟩
                    refine ws_ret ?_
                    refine we_tup ?_
                    refine wa_cons ?_
                    refine we_tup ?_
                    refine wa_cons ?_
                    refine wv 3 rfl ?_
                    refine wa_cons ?_
                    refine wv 4 rfl ?_
                    refine wa_nil ?_
                    refine ⟨(by walk_at "size"), ?_⟩
                    refine wa_cons ?_
                    refine wv 1 rfl ?_
                    refine wa_cons ?_
                    refine wv 2 rfl ?_
                    refine wa_nil ?_
                    refine ⟨(by walk_at "size"), ?_⟩
                    first
                    | (rw [tight_yes (by omega) (by omega)] at q; exact q)
                    | (rw [tight_no (by omega)] at q; exact q)
                    | (rw [tight_low (by omega)] at q; exact q)))))
abbrev s_sum_of_lesser : Stmt := top 11
theorem sc_sum_of_lesser : FnScope ["low", "high", "add", "most", "split", "many"] ["low", "high", "add", "most"] (defScope s_sum_of_lesser) := ⟨rfl, rfl, rfl, by decide +kernel, rfl, by decide +kernel, by decide +kernel⟩
theorem ok_sum_of_lesser {f : Addr} {fd : FuncData} (F : FunD K "sum_of_lesser" "sum_of_lesser" (defArgs s_sum_of_lesser) (defBody s_sum_of_lesser) (defScope s_sum_of_lesser) [] [] f fd) (hG : HasFn P w K mg base 1 "greater" S_greater) (hL : HasFn P w K mg base 1 "lesser" S_lesser) : FnOk P w K mg base CX0 2 f fd ["low", "high", "add", "most"] (spOf K S_sum_of_lesser) := by
  refine fn_data (k := 1) F sc_sum_of_lesser (fun ds M Φ h => ?_) (fun cdv A outer s H E ds M Φ hr h => ?_)
  · obtain ⟨low, high, add, most, rfl, ⟨l1, l2⟩, ⟨h1, h2⟩, ⟨a1, a2⟩, ⟨m1, m2⟩, q⟩ := h
    all_goals rfl
  · obtain ⟨low, high, add, most, rfl, ⟨l1, l2⟩, ⟨h1, h2⟩, ⟨a1, a2⟩, ⟨m1, m2⟩, q⟩ := h
    refine ws_set 4 sc_sum_of_lesser.nd ?_
    refine wcf hL (hr.mono (by decide)) ?_
    refine wa_cons ?_
    refine wv 1 rfl ?_
    refine wa_cons ?_
    refine wcf hG (hr.mono (by decide)) ?_
    refine wa_cons ?_
    refine we_bin ?_
    refine wv 0 rfl ?_
    refine we_int ?_
    walk_at "op"
    refine wa_cons ?_
    refine we_bin ?_
    refine wv 3 rfl ?_
    refine wv 2 rfl ?_
    walk_at "op"
    refine wa_nil ?_
    refine use_greater ?_
    refine wa_nil ?_
    refine use_lesser ?_
    refine ws_set 5 sc_sum_of_lesser.nd ?_
    refine we_bin ?_
    refine we_bin ?_
    refine wv 4 rfl ?_
    refine wv 0 rfl ?_
    walk_at "op"
    refine we_int ?_
    walk_at "op"
    refine ws_ret ?_
    refine we_bin ?_
    refine we_bin ?_
    refine we_bin ?_
    refine wv 5 rfl ?_
    refine we_bin ?_
    refine we_bin ?_
    refine wv 0 rfl ?_
    refine wv 4 rfl ?_
    walk_at "op"
    refine we_bin ?_
    refine we_int ?_
    refine wv 2 rfl ?_
    refine od_mulW (mulB ⟨by omega, by omega⟩ ⟨by omega, by omega⟩) ?_
    walk_at "op"
    refine od_mulW (mulB ⟨by omega, by omega⟩ ⟨by omega, by omega⟩) ?_
    refine we_int ?_
    refine od_fdiv ⟨by decide, by decide⟩ ?_
    refine we_bin ?_
    refine we_bin ?_
    refine wv 1 rfl ?_
    refine wv 4 rfl ?_
    walk_at "op"
    refine wv 3 rfl ?_
    refine od_mulW (mulB ⟨by omega, by omega⟩ ⟨by omega, by omega⟩) ?_
    walk_at "op"
    exact q
abbrev s_Span_init : Stmt := inClass (top 12) 0
theorem sc_Span_init : FnScope ["self", "belief", "place", "error", "word", "value", "found"] ["self", "belief", "place", "error"] (defScope s_Span_init) := ⟨rfl, rfl, rfl, by decide +kernel, rfl, by decide +kernel, by decide +kernel⟩
theorem ok_Span_init {f : Addr} {fd : FuncData} (F : FunD K "__init__" "Span.__init__" (defArgs s_Span_init) (defBody s_Span_init) (defScope s_Span_init) [] [] f fd) {C : Addr} (hS : SpC K C) (hC : HasFn P w K mg base 3 "is_cell" S_is_cell) (hT : HasFn P w K mg base 2 "tightened" S_tightened) : FnOk P w K mg base CX0 4 f fd ["self", "belief", "place", "error"] (spOf K (S_init C)) := by
  refine fn_data (k := 3) F sc_Span_init (fun ds M Φ h => ?_) (fun cdv A outer s H E ds M Φ hr h => ?_)
  · obtain ⟨l, b0, b1, p0, p1, e0, e1, M, rfl, rfl, q⟩ := h
    all_goals rfl
  · obtain ⟨l, b0, b1, p0, p1, e0, e1, M, rfl, rfl, q⟩ := h
    refine wu_T (by passes_own) ?_
    refine we_tup ?_
    refine wa_cons ?_
    refine we_tup ?_
    refine wa_cons ?_
    refine we_str ?_
    refine wa_cons ?_
    refine wv 1 rfl ?_
    refine wa_nil ?_
    refine ⟨(by walk_at "size"), ?_⟩
    refine wa_cons ?_
    refine we_tup ?_
    refine wa_cons ?_
    refine we_str ?_
    refine wa_cons ?_
    refine wv 2 rfl ?_
    refine wa_nil ?_
    refine ⟨(by walk_at "size"), ?_⟩
    refine wa_cons ?_
    refine we_tup ?_
    refine wa_cons ?_
    refine we_str ?_
    refine wa_cons ?_
    refine wv 3 rfl ?_
    refine wa_nil ?_
    refine ⟨(by walk_at "size"), ?_⟩
    refine wa_nil ?_
    refine ⟨(by walk_at "size"), ?_⟩
    refine ⟨_, rfl, ?_⟩
    show GD _ _ _ _ _ _
    refine gd_tup rfl ?_ rfl
    refine gds_cons ?_
    refine gd_name 4 sc_Span_init.nd ?_
    refine gds_cons ?_
    refine gd_name 5 sc_Span_init.nd ?_
    refine gds_nil ?_
    refine ws_if ?_
    refine wt_not ?_
    refine wt_val ?_ (by intro _; rfl)
    refine wcf hC (hr.mono (by decide)) ?_
    refine wa_cons ?_
    refine wv 5 rfl ?_
    refine wa_nil ?_
    refine use_is_cell ?_
    walk_at "truth"
    refine ⟨fun hb => ?_, fun hb => ?_⟩
    · walk_at "dead"
    · walk_at "tidy"
      refine ws_nil ?_
      refine ws_nil ?_
      show GD _ _ _ _ _ _
      refine gd_tup rfl ?_ rfl
      refine gds_cons ?_
      refine gd_name 4 sc_Span_init.nd ?_
      refine gds_cons ?_
      refine gd_name 5 sc_Span_init.nd ?_
      refine gds_nil ?_
      refine ws_if ?_
      refine wt_not ?_
      refine wt_val ?_ (by intro _; rfl)
      refine wcf hC (hr.mono (by decide)) ?_
      refine wa_cons ?_
      refine wv 5 rfl ?_
      refine wa_nil ?_
      refine use_is_cell ?_
      walk_at "truth"
      refine ⟨fun hb => ?_, fun hb => ?_⟩
      · walk_at "dead"
      · walk_at "tidy"
        refine ws_nil ?_
        refine ws_nil ?_
        show GD _ _ _ _ _ _
        refine gd_tup rfl ?_ rfl
        refine gds_cons ?_
        refine gd_name 4 sc_Span_init.nd ?_
        refine gds_cons ?_
        refine gd_name 5 sc_Span_init.nd ?_
        refine gds_nil ?_
        refine ws_if ?_
        refine wt_not ?_
        refine wt_val ?_ (by intro _; rfl)
        refine wcf hC (hr.mono (by decide)) ?_
        refine wa_cons ?_
        refine wv 5 rfl ?_
        refine wa_nil ?_
        refine use_is_cell ?_
        walk_at "truth"
        refine ⟨fun hb => ?_, fun hb => ?_⟩
        · walk_at "dead"
        · walk_at "tidy"
          refine ws_nil ?_
          refine ws_nil ?_
          show WS _ _ _ _ _
          refine ws_set 6 sc_Span_init.nd ?_
          cases et : tight b0 b1 p0 p1 e0 e1 with
          | none =>
            refine wcf hT (hr.mono (by decide)) ?_
            refine wa_cons ?_
            refine wv 1 rfl ?_
            refine wa_cons ?_
            refine wv 2 rfl ?_
            refine wa_cons ?_
            refine wv 3 rfl ?_
            refine wa_nil ?_
            refine use_tightened ?_
            rw [et] at q ⊢
            refine ws_asg ?_
            refine we_if ?_
            refine wt_cmp ?_ (nomark _)
            refine wv 6 rfl ?_
            refine we_non ?_
            walk_at "op"
            refine ⟨_, rfl, ?_⟩
            refine ⟨fun hb => ?_, fun hb => ?_⟩
            · first
              | (walk_at "dead")
              | (
                walk_at "tidy"
                refine we_tup ?_
                refine wa_cons ?_
                refine we_non ?_
                refine wa_cons ?_
                refine we_non ?_
                refine wa_cons ?_
                refine we_non ?_
                refine wa_nil ?_
                refine ⟨(by walk_at "size"), ?_⟩
                refine gd_tup rfl ?_ rfl
                refine gds_cons ?_
                refine gd_fld ?_
                refine wv 0 rfl ?_
                refine ⟨0, l, C, _, rfl, rfl, hS.cls, hS.nb, of_decide_eq_true rfl, ?_⟩
                rw [put_nil]
                refine gds_cons ?_
                refine gd_fld ?_
                refine wv 0 rfl ?_
                refine ⟨0, l, C, _, rfl, rfl, hS.cls, hS.np, of_decide_eq_true rfl, ?_⟩
                rw [put_there (by decide) put_nil]
                refine gds_cons ?_
                refine gd_fld ?_
                refine wv 0 rfl ?_
                refine ⟨0, l, C, _, rfl, rfl, hS.cls, hS.ne, of_decide_eq_true rfl, ?_⟩
                rw [put_there (by decide) (put_there (by decide) put_nil)]
                refine gds_nil ?_
                refine ws_nil ?_
                exact q)
            · first
              | (walk_at "dead")
              | (
                walk_at "tidy"
                refine wv 6 rfl ?_
                refine gd_tup rfl ?_ rfl
                refine gds_cons ?_
                refine gd_fld ?_
                refine wv 0 rfl ?_
                refine ⟨0, l, C, _, rfl, rfl, hS.cls, hS.nb, of_decide_eq_true rfl, ?_⟩
                rw [put_nil]
                refine gds_cons ?_
                refine gd_fld ?_
                refine wv 0 rfl ?_
                refine ⟨0, l, C, _, rfl, rfl, hS.cls, hS.np, of_decide_eq_true rfl, ?_⟩
                rw [put_there (by decide) put_nil]
                refine gds_cons ?_
                refine gd_fld ?_
                refine wv 0 rfl ?_
                refine ⟨0, l, C, _, rfl, rfl, hS.cls, hS.ne, of_decide_eq_true rfl, ?_⟩
                rw [put_there (by decide) (put_there (by decide) put_nil)]
                refine gds_nil ?_
                refine ws_nil ?_
                exact q)
          | some t =>
            refine wcf hT (hr.mono (by decide)) ?_
            refine wa_cons ?_
            refine wv 1 rfl ?_
            refine wa_cons ?_
            refine wv 2 rfl ?_
            refine wa_cons ?_
            refine wv 3 rfl ?_
            refine wa_nil ?_
            refine use_tightened ?_
            rw [et] at q ⊢
            refine ws_asg ?_
            refine we_if ?_
            refine wt_cmp ?_ (nomark _)
            refine wv 6 rfl ?_
            refine we_non ?_
            walk_at "op"
            refine ⟨_, rfl, ?_⟩
            refine ⟨fun hb => ?_, fun hb => ?_⟩
            · first
              | (walk_at "dead")
              | (
                walk_at "tidy"
                refine we_tup ?_
                refine wa_cons ?_
                refine we_non ?_
                refine wa_cons ?_
                refine we_non ?_
                refine wa_cons ?_
                refine we_non ?_
                refine wa_nil ?_
                refine ⟨(by walk_at "size"), ?_⟩
                refine gd_tup rfl ?_ rfl
                refine gds_cons ?_
                refine gd_fld ?_
                refine wv 0 rfl ?_
                refine ⟨0, l, C, _, rfl, rfl, hS.cls, hS.nb, of_decide_eq_true rfl, ?_⟩
                rw [put_nil]
                refine gds_cons ?_
                refine gd_fld ?_
                refine wv 0 rfl ?_
                refine ⟨0, l, C, _, rfl, rfl, hS.cls, hS.np, of_decide_eq_true rfl, ?_⟩
                rw [put_there (by decide) put_nil]
                refine gds_cons ?_
                refine gd_fld ?_
                refine wv 0 rfl ?_
                refine ⟨0, l, C, _, rfl, rfl, hS.cls, hS.ne, of_decide_eq_true rfl, ?_⟩
                rw [put_there (by decide) (put_there (by decide) put_nil)]
                refine gds_nil ?_
                refine ws_nil ?_
                exact q)
            · first
              | (walk_at "dead")
              | (
                walk_at "tidy"
                refine wv 6 rfl ?_
                refine gd_tup rfl ?_ rfl
                refine gds_cons ?_
                refine gd_fld ?_
                refine wv 0 rfl ?_
                refine ⟨0, l, C, _, rfl, rfl, hS.cls, hS.nb, of_decide_eq_true rfl, ?_⟩
                rw [put_nil]
                refine gds_cons ?_
                refine gd_fld ?_
                refine wv 0 rfl ?_
                refine ⟨0, l, C, _, rfl, rfl, hS.cls, hS.np, of_decide_eq_true rfl, ?_⟩
                rw [put_there (by decide) put_nil]
                refine gds_cons ?_
                refine gd_fld ?_
                refine wv 0 rfl ?_
                refine ⟨0, l, C, _, rfl, rfl, hS.cls, hS.ne, of_decide_eq_true rfl, ?_⟩
                rw [put_there (by decide) (put_there (by decide) put_nil)]
                refine gds_nil ?_
                refine ws_nil ?_
                exact q)
abbrev s_Span_bool : Stmt := inClass (top 12) 1
theorem sc_Span_bool : FnScope ["self"] ["self"] (defScope s_Span_bool) := ⟨rfl, rfl, rfl, by decide +kernel, rfl, by decide +kernel, by decide +kernel⟩
theorem ok_Span_bool {f : Addr} {fd : FuncData} (F : FunD K "__bool__" "Span.__bool__" (defArgs s_Span_bool) (defBody s_Span_bool) (defScope s_Span_bool) [] [] f fd) {C : Addr} (hS : SpC K C) : FnOk P w K mg base CX0 1 f fd ["self"] (spOf K (S_bool C)) := by
  refine fn_data (k := 0) F sc_Span_bool (fun ds M Φ h => ?_) (fun cdv A outer s H E ds M Φ hr h => ?_)
  · obtain ⟨t, rfl, q⟩ := h
    all_goals rfl
  · obtain ⟨t, rfl, q⟩ := h
    cases t with
    | none =>
      refine ws_ret ?_
      refine we_cmp ?_ (nomark _)
      refine we_attr ?_ (by rfl)
      refine wv 0 rfl ?_
      refine at_fld (.inl rfl) lk_here hS.cls hS.nb ?_
      refine we_non ?_
      walk_at "op"
      exact q
    | some t =>
      refine ws_ret ?_
      refine we_cmp ?_ (nomark _)
      refine we_attr ?_ (by rfl)
      refine wv 0 rfl ?_
      refine at_fld (.inl rfl) lk_here hS.cls hS.nb ?_
      refine we_non ?_
      walk_at "op"
      exact q
abbrev s_Span_places_at : Stmt := inClass (top 12) 4
theorem sc_Span_places_at : FnScope ["self", "number", "low"] ["self", "number"] (defScope s_Span_places_at) := ⟨rfl, rfl, rfl, by decide +kernel, rfl, by decide +kernel, by decide +kernel⟩
theorem ok_Span_places_at {f : Addr} {fd : FuncData} (F : FunD K "places_at" "Span.places_at" (defArgs s_Span_places_at) (defBody s_Span_places_at) (defScope s_Span_places_at) [] [] f fd) {C : Addr} (hS : SpC K C) (hB : HasMe P w K mg base 1 C "__bool__" (S_bool C)) (hG : HasFn P w K mg base 1 "greater" S_greater) (hL : HasFn P w K mg base 1 "lesser" S_lesser) : FnOk P w K mg base CX0 2 f fd ["self", "number"] (spOf K (S_places_at C)) := by
  refine fn_data (k := 1) F sc_Span_places_at (fun ds M Φ h => ?_) (fun cdv A outer s H E ds M Φ hr h => ?_)
  · obtain ⟨t, n, rfl, q⟩ := h
    all_goals rfl
  · obtain ⟨t, n, rfl, q⟩ := h
    cases t with
    | none =>
      refine ws_if ?_
      refine wt_bool ?_
      refine ww_or ?_
      refine wt_not ?_
      refine wt_val ?_ (by intro _; rfl)
      refine wv 0 rfl ?_
      first
      | refine tr_own hB (hr.mono (by decide)) (.inl rfl) (use_boolS ⟨_, rfl, ?_⟩)
      | refine tr_own hB (hr.mono (by decide)) (.inl rfl) (use_boolN ⟨_, rfl, ?_⟩)
      refine ⟨fun hb => ?_, fun hb => ?_⟩
      · walk_at "tidy"
        refine ⟨fun hb => ?_, fun hb => ?_⟩
        · walk_at "tidy"
          refine ws_ret ?_
          refine we_non ?_
          first
          | (rw [places_yes (by omega)] at q; exact q)
          | (rw [places_no (by omega)] at q; exact q)
          | exact q
        · walk_at "dead"
      · walk_at "dead"
    | some t =>
      refine ws_if ?_
      refine wt_bool ?_
      refine ww_or ?_
      refine wt_not ?_
      refine wt_val ?_ (by intro _; rfl)
      refine wv 0 rfl ?_
      first
      | refine tr_own hB (hr.mono (by decide)) (.inl rfl) (use_boolS ⟨_, rfl, ?_⟩)
      | refine tr_own hB (hr.mono (by decide)) (.inl rfl) (use_boolN ⟨_, rfl, ?_⟩)
      refine ⟨fun hb => ?_, fun hb => ?_⟩
      · walk_at "dead"
      · walk_at "tidy"
        refine ww_or1 ?_
        refine wt_not ?_
        refine wt_chain ?_
        refine we_ix ?_ (fun _ _ => rfl)
        refine we_attr ?_ (by rfl)
        refine wv 0 rfl ?_
        refine at_fld (.inl rfl) lk_here hS.cls hS.nb ?_
        refine we_int ?_
        walk_at "ix"
        refine wv 1 rfl ?_
        walk_at "op"
        refine ⟨_, rfl, fun hb => ?_, fun hb => ?_⟩
        · first
          | (walk_at "dead")
          | (
            walk_at "tidy"
            refine we_ix ?_ (fun _ _ => rfl)
            refine we_attr ?_ (by rfl)
            refine wv 0 rfl ?_
            refine at_fld (.inl rfl) lk_here hS.cls hS.nb ?_
            refine we_int ?_
            walk_at "ix"
            walk_at "op"
            refine ⟨_, rfl, ?_⟩
            refine ⟨fun hb => ?_, fun hb => ?_⟩
            · first
              | (walk_at "dead")
              | (
                walk_at "tidy"
                refine ws_ret ?_
                refine we_non ?_
                first
                | (rw [places_yes (by omega)] at q; exact q)
                | (rw [places_no (by omega)] at q; exact q)
                | exact q)
            · first
              | (walk_at "dead")
              | (
                walk_at "tidy"
                refine ws_nil ?_
                refine ws_set 2 sc_Span_places_at.nd ?_
                refine wcf hG (hr.mono (by decide)) ?_
                refine wa_cons ?_
                refine we_ix ?_ (fun _ _ => rfl)
                refine we_attr ?_ (by rfl)
                refine wv 0 rfl ?_
                refine at_fld (.inl rfl) (lk_there (by decide) lk_here) hS.cls hS.np ?_
                refine we_int ?_
                walk_at "ix"
                refine wa_cons ?_
                refine we_bin ?_
                refine wv 1 rfl ?_
                refine we_ix ?_ (fun _ _ => rfl)
                refine we_attr ?_ (by rfl)
                refine wv 0 rfl ?_
                refine at_fld (.inl rfl) (lk_there (by decide) (lk_there (by decide) lk_here)) hS.cls hS.ne ?_
                refine we_int ?_
                walk_at "ix"
                walk_at "op"
                refine wa_nil ?_
                refine use_greater ?_
                refine ws_ret ?_
                refine we_tup ?_
                refine wa_cons ?_
                refine wv 2 rfl ?_
                refine wa_cons ?_
                refine wcf hL (hr.mono (by decide)) ?_
                refine wa_cons ?_
                refine we_ix ?_ (fun _ _ => rfl)
                refine we_attr ?_ (by rfl)
                refine wv 0 rfl ?_
                refine at_fld (.inl rfl) (lk_there (by decide) lk_here) hS.cls hS.np ?_
                refine we_int ?_
                walk_at "ix"
                refine wa_cons ?_
                refine we_bin ?_
                refine wv 1 rfl ?_
                refine we_ix ?_ (fun _ _ => rfl)
                refine we_attr ?_ (by rfl)
                refine wv 0 rfl ?_
                refine at_fld (.inl rfl) (lk_there (by decide) (lk_there (by decide) lk_here)) hS.cls hS.ne ?_
                refine we_int ?_
                walk_at "ix"
                walk_at "op"
                refine wa_nil ?_
                refine use_lesser ?_
                refine wa_nil ?_
                refine ⟨(by walk_at "size"), ?_⟩
                first
                | (rw [places_yes (by omega)] at q; exact q)
                | (rw [places_no (by omega)] at q; exact q)
                | exact q))
        · first
          | (walk_at "dead")
          | (
            walk_at "tidy"
            refine ⟨fun hb => ?_, fun hb => ?_⟩
            · walk_at "tidy"
              refine ws_ret ?_
              refine we_non ?_
              first
              | (rw [places_yes (by omega)] at q; exact q)
              | (rw [places_no (by omega)] at q; exact q)
              | exact q
            · walk_at "dead")
abbrev s_Span_contains : Stmt := inClass (top 12) 2
theorem sc_Span_contains : FnScope ["self", "value", "near"] ["self", "value"] (defScope s_Span_contains) := ⟨rfl, rfl, rfl, by decide +kernel, rfl, by decide +kernel, by decide +kernel⟩
theorem ok_Span_contains {f : Addr} {fd : FuncData} (F : FunD K "__contains__" "Span.__contains__" (defArgs s_Span_contains) (defBody s_Span_contains) (defScope s_Span_contains) [] [] f fd) {C : Addr} (hS : SpC K C) (hB : HasMe P w K mg base 1 C "__bool__" (S_bool C)) (hC : HasFn P w K mg base 3 "is_cell" S_is_cell) (hP : HasMe P w K mg base 2 C "places_at" (S_places_at C)) : FnOk P w K mg base CX0 4 f fd ["self", "value"] (spOf K (S_contains C)) := by
  refine fn_data (k := 3) F sc_Span_contains (fun ds M Φ h => ?_) (fun cdv A outer s H E ds M Φ hr h => ?_)
  · obtain ⟨t, d, ty, rfl, ht, ha, hl, q⟩ := h
    all_goals rfl
  · obtain ⟨t, d, ty, rfl, ht, ha, hl, q⟩ := h
    rcases areInts2 (d := d) with ⟨i, j, rfl⟩ | hno
    · cases t with
      | none =>
        refine ws_if ?_
        refine wt_bool ?_
        refine ww_or ?_
        refine wt_not ?_
        refine wt_val ?_ (by intro _; rfl)
        refine wcf hC (hr.mono (by decide)) ?_
        refine wa_cons ?_
        refine wv 1 rfl ?_
        refine wa_nil ?_
        first
        | refine use_is_cell ?_
        | (refine ⟨d, ty, rfl, ht, ha, hl, ?_⟩; rw [hno])
        walk_at "truth"
        refine ⟨fun hb => ?_, fun hb => ?_⟩
        · walk_at "dead"
        · walk_at "tidy"
          refine ww_or1 ?_
          refine wt_not ?_
          refine wt_val ?_ (by intro _; rfl)
          refine wv 0 rfl ?_
          first
          | refine tr_own hB (hr.mono (by decide)) (.inl rfl) (use_boolS ⟨_, rfl, ?_⟩)
          | refine tr_own hB (hr.mono (by decide)) (.inl rfl) (use_boolN ⟨_, rfl, ?_⟩)
          refine ⟨fun hb => ?_, fun hb => ?_⟩
          · walk_at "tidy"
            refine ws_ret ?_
            refine we_bl ?_
            first
            | (rw [show inSpan (some t) (tp i j) = true from decide_eq_true (by omega)] at q; exact q)
            | (rw [show inSpan (some t) (tp i j) = false from decide_eq_false (by omega)] at q; exact q)
            | (rw [show inSpan (some t) (tp i j) = decide (j ≤ min t.p1 (i + t.e1)) from decide_eq_decide.mpr (by omega)] at q; exact q)
            | exact q
            | (rw [inSpan_no hno] at q; exact q)
          · walk_at "dead"
      | some t =>
        refine ws_if ?_
        refine wt_bool ?_
        refine ww_or ?_
        refine wt_not ?_
        refine wt_val ?_ (by intro _; rfl)
        refine wcf hC (hr.mono (by decide)) ?_
        refine wa_cons ?_
        refine wv 1 rfl ?_
        refine wa_nil ?_
        first
        | refine use_is_cell ?_
        | (refine ⟨d, ty, rfl, ht, ha, hl, ?_⟩; rw [hno])
        walk_at "truth"
        refine ⟨fun hb => ?_, fun hb => ?_⟩
        · walk_at "dead"
        · walk_at "tidy"
          refine ww_or1 ?_
          refine wt_not ?_
          refine wt_val ?_ (by intro _; rfl)
          refine wv 0 rfl ?_
          first
          | refine tr_own hB (hr.mono (by decide)) (.inl rfl) (use_boolS ⟨_, rfl, ?_⟩)
          | refine tr_own hB (hr.mono (by decide)) (.inl rfl) (use_boolN ⟨_, rfl, ?_⟩)
          refine ⟨fun hb => ?_, fun hb => ?_⟩
          · walk_at "dead"
          · walk_at "tidy"
            refine ws_nil ?_
            rcases Decidable.em (t.b0 ≤ i ∧ i ≤ t.b1) with hin | hin
            · refine ws_set 2 sc_Span_contains.nd ?_
              refine wme hP (hr.mono (by decide)) hS.cls ?_
              refine wv 0 rfl ?_
              refine ⟨⟨flds _, .inl rfl, flds_no (by decide) (by decide) (by decide)⟩, ?_⟩
              refine wa_cons ?_
              refine we_ix ?_ (fun _ _ => rfl)
              refine wv 1 rfl ?_
              refine we_int ?_
              walk_at "ix"
              refine wa_nil ?_
              refine use_places ?_
              rw [places_yes hin]
              refine ws_ret ?_
              refine we_and ?_
              refine we_cmp ?_ (nomark _)
              refine wv 2 rfl ?_
              refine we_non ?_
              walk_at "op"
              refine ⟨_, rfl, fun hb => ?_, fun hb => ?_⟩
              · first
                | (walk_at "dead")
                | (
                  walk_at "tidy"
                  refine we_one ?_
                  refine we_chain ?_
                  refine we_ix ?_ (fun _ _ => rfl)
                  refine wv 2 rfl ?_
                  refine we_int ?_
                  walk_at "ix"
                  refine we_ix ?_ (fun _ _ => rfl)
                  refine wv 1 rfl ?_
                  refine we_int ?_
                  walk_at "ix"
                  walk_at "op"
                  refine ⟨_, rfl, fun hb => ?_, fun hb => ?_⟩
                  · first
                    | (walk_at "dead")
                    | (
                      walk_at "tidy"
                      refine we_ix ?_ (fun _ _ => rfl)
                      refine wv 2 rfl ?_
                      refine we_int ?_
                      walk_at "ix"
                      walk_at "op"
                      first
                      | (rw [show inSpan (some t) (tp i j) = true from decide_eq_true (by omega)] at q; exact q)
                      | (rw [show inSpan (some t) (tp i j) = false from decide_eq_false (by omega)] at q; exact q)
                      | (rw [show inSpan (some t) (tp i j) = decide (j ≤ min t.p1 (i + t.e1)) from decide_eq_decide.mpr (by omega)] at q; exact q)
                      | exact q
                      | (rw [inSpan_no hno] at q; exact q))
                  · first
                    | (walk_at "dead")
                    | (
                      walk_at "tidy"
                      first
                      | (rw [show inSpan (some t) (tp i j) = true from decide_eq_true (by omega)] at q; exact q)
                      | (rw [show inSpan (some t) (tp i j) = false from decide_eq_false (by omega)] at q; exact q)
                      | (rw [show inSpan (some t) (tp i j) = decide (j ≤ min t.p1 (i + t.e1)) from decide_eq_decide.mpr (by omega)] at q; exact q)
                      | exact q
                      | (rw [inSpan_no hno] at q; exact q)))
              · first
                | (walk_at "dead")
                | (
                  walk_at "tidy"
                  first
                  | (rw [show inSpan (some t) (tp i j) = true from decide_eq_true (by omega)] at q; exact q)
                  | (rw [show inSpan (some t) (tp i j) = false from decide_eq_false (by omega)] at q; exact q)
                  | (rw [show inSpan (some t) (tp i j) = decide (j ≤ min t.p1 (i + t.e1)) from decide_eq_decide.mpr (by omega)] at q; exact q)
                  | exact q
                  | (rw [inSpan_no hno] at q; exact q))
            · refine ws_set 2 sc_Span_contains.nd ?_
              refine wme hP (hr.mono (by decide)) hS.cls ?_
              refine wv 0 rfl ?_
              refine ⟨⟨flds _, .inl rfl, flds_no (by decide) (by decide) (by decide)⟩, ?_⟩
              refine wa_cons ?_
              refine we_ix ?_ (fun _ _ => rfl)
              refine wv 1 rfl ?_
              refine we_int ?_
              walk_at "ix"
              refine wa_nil ?_
              refine use_places ?_
              rw [places_no hin]
              refine ws_ret ?_
              refine we_and ?_
              refine we_cmp ?_ (nomark _)
              refine wv 2 rfl ?_
              refine we_non ?_
              walk_at "op"
              refine ⟨_, rfl, fun hb => ?_, fun hb => ?_⟩
              · first
                | (walk_at "dead")
                | (
                  walk_at "tidy"
                  refine we_one ?_
                  refine we_chain ?_
                  refine we_ix ?_ (fun _ _ => rfl)
                  refine wv 2 rfl ?_
                  refine we_int ?_
                  walk_at "ix"
                  refine we_ix ?_ (fun _ _ => rfl)
                  refine wv 1 rfl ?_
                  refine we_int ?_
                  walk_at "ix"
                  walk_at "op"
                  refine ⟨_, rfl, fun hb => ?_, fun hb => ?_⟩
                  · first
                    | (walk_at "dead")
                    | (
                      walk_at "tidy"
                      refine we_ix ?_ (fun _ _ => rfl)
                      refine wv 2 rfl ?_
                      refine we_int ?_
                      walk_at "ix"
                      walk_at "op"
                      first
                      | (rw [show inSpan (some t) (tp i j) = true from decide_eq_true (by omega)] at q; exact q)
                      | (rw [show inSpan (some t) (tp i j) = false from decide_eq_false (by omega)] at q; exact q)
                      | (rw [show inSpan (some t) (tp i j) = decide (j ≤ min t.p1 (i + t.e1)) from decide_eq_decide.mpr (by omega)] at q; exact q)
                      | exact q
                      | (rw [inSpan_no hno] at q; exact q))
                  · first
                    | (walk_at "dead")
                    | (
                      walk_at "tidy"
                      first
                      | (rw [show inSpan (some t) (tp i j) = true from decide_eq_true (by omega)] at q; exact q)
                      | (rw [show inSpan (some t) (tp i j) = false from decide_eq_false (by omega)] at q; exact q)
                      | (rw [show inSpan (some t) (tp i j) = decide (j ≤ min t.p1 (i + t.e1)) from decide_eq_decide.mpr (by omega)] at q; exact q)
                      | exact q
                      | (rw [inSpan_no hno] at q; exact q)))
              · first
                | (walk_at "dead")
                | (
                  walk_at "tidy"
                  first
                  | (rw [show inSpan (some t) (tp i j) = true from decide_eq_true (by omega)] at q; exact q)
                  | (rw [show inSpan (some t) (tp i j) = false from decide_eq_false (by omega)] at q; exact q)
                  | (rw [show inSpan (some t) (tp i j) = decide (j ≤ min t.p1 (i + t.e1)) from decide_eq_decide.mpr (by omega)] at q; exact q)
                  | exact q
                  | (rw [inSpan_no hno] at q; exact q))
    · skip
      refine ws_if ?_
      refine wt_bool ?_
      refine ww_or ?_
      refine wt_not ?_
      refine wt_val ?_ (by intro _; rfl)
      refine wcf hC (hr.mono (by decide)) ?_
      refine wa_cons ?_
      refine wv 1 rfl ?_
      refine wa_nil ?_
      first
      | refine use_is_cell ?_
      | (refine ⟨d, ty, rfl, ht, ha, hl, ?_⟩; rw [hno])
      walk_at "truth"
      refine ⟨fun hb => ?_, fun hb => ?_⟩
      · walk_at "tidy"
        refine ⟨fun hb => ?_, fun hb => ?_⟩
        · walk_at "tidy"
          refine ws_ret ?_
          refine we_bl ?_
          first
          | (rw [show inSpan (some t) (tp i j) = true from decide_eq_true (by omega)] at q; exact q)
          | (rw [show inSpan (some t) (tp i j) = false from decide_eq_false (by omega)] at q; exact q)
          | (rw [show inSpan (some t) (tp i j) = decide (j ≤ min t.p1 (i + t.e1)) from decide_eq_decide.mpr (by omega)] at q; exact q)
          | exact q
          | (rw [inSpan_no hno] at q; exact q)
        · walk_at "dead"
      · walk_at "dead"
abbrev s_Span_total : Stmt := inClass (top 12) 3
theorem sc_Span_total : FnScope ["self", "low", "high", "most", "least"] ["self"] (defScope s_Span_total) := ⟨rfl, rfl, rfl, by decide +kernel, rfl, by decide +kernel, by decide +kernel⟩
theorem ok_Span_total {f : Addr} {fd : FuncData} (F : FunD K "total" "Span.total" (defArgs s_Span_total) (defBody s_Span_total) (defScope s_Span_total) [] [] f fd) {C : Addr} (hS : SpC K C) (hB : HasMe P w K mg base 1 C "__bool__" (S_bool C)) (hSol : HasFn P w K mg base 2 "sum_of_lesser" S_sum_of_lesser) : FnOk P w K mg base CX0 3 f fd ["self"] (spOf K (S_total C)) := by
  refine fn_data (k := 2) F sc_Span_total (fun ds M Φ h => ?_) (fun cdv A outer s H E ds M Φ hr h => ?_)
  · obtain ⟨t, rfl, hbd, q⟩ := h
    all_goals rfl
  · obtain ⟨t, rfl, hbd, q⟩ := h
    cases t with
    | none =>
      refine ws_if ?_
      refine wt_not ?_
      refine wt_val ?_ (by intro _; rfl)
      refine wv 0 rfl ?_
      first
      | refine tr_own hB (hr.mono (by decide)) (.inl rfl) (use_boolS ⟨_, rfl, ?_⟩)
      | refine tr_own hB (hr.mono (by decide)) (.inl rfl) (use_boolN ⟨_, rfl, ?_⟩)
      refine ⟨fun hb => ?_, fun hb => ?_⟩
      · walk_at "tidy"
        refine ws_ret ?_
        refine we_int ?_
        exact q
      · walk_at "dead"
    | some t =>
      obtain ⟨c1, c2, c3, c4, c5, c6⟩ := hbd t rfl
      refine ws_if ?_
      refine wt_not ?_
      refine wt_val ?_ (by intro _; rfl)
      refine wv 0 rfl ?_
      first
      | refine tr_own hB (hr.mono (by decide)) (.inl rfl) (use_boolS ⟨_, rfl, ?_⟩)
      | refine tr_own hB (hr.mono (by decide)) (.inl rfl) (use_boolN ⟨_, rfl, ?_⟩)
      refine ⟨fun hb => ?_, fun hb => ?_⟩
      · walk_at "dead"
      · walk_at "tidy"
        refine ws_nil ?_
        refine ws_asg ?_
        refine we_attr ?_ (by rfl)
        refine wv 0 rfl ?_
        refine at_fld (.inl rfl) lk_here hS.cls hS.nb ?_
        refine gd_tup rfl ?_ rfl
        refine gds_cons ?_
        refine gd_name 1 sc_Span_total.nd ?_
        refine gds_cons ?_
        refine gd_name 2 sc_Span_total.nd ?_
        refine gds_nil ?_
        refine ws_set 3 sc_Span_total.nd ?_
        refine wcf hSol (hr.mono (by decide)) ?_
        refine wa_cons ?_
        refine wv 1 rfl ?_
        refine wa_cons ?_
        refine wv 2 rfl ?_
        refine wa_cons ?_
        refine we_ix ?_ (fun _ _ => rfl)
        refine we_attr ?_ (by rfl)
        refine wv 0 rfl ?_
        refine at_fld (.inl rfl) (lk_there (by decide) (lk_there (by decide) lk_here)) hS.cls hS.ne ?_
        refine we_int ?_
        walk_at "ix"
        refine wa_cons ?_
        refine we_ix ?_ (fun _ _ => rfl)
        refine we_attr ?_ (by rfl)
        refine wv 0 rfl ?_
        refine at_fld (.inl rfl) (lk_there (by decide) lk_here) hS.cls hS.np ?_
        refine we_int ?_
        walk_at "ix"
        refine wa_nil ?_
        refine use_sol c1 c2 c6 c4 ?_
        refine ws_set 4 sc_Span_total.nd ?_
        refine we_un ?_
        refine wcf hSol (hr.mono (by decide)) ?_
        refine wa_cons ?_
        refine we_un ?_
        refine wv 2 rfl ?_
        refine ud_neg ?_
        refine wa_cons ?_
        refine we_un ?_
        refine wv 1 rfl ?_
        refine ud_neg ?_
        refine wa_cons ?_
        refine we_un ?_
        refine we_ix ?_ (fun _ _ => rfl)
        refine we_attr ?_ (by rfl)
        refine wv 0 rfl ?_
        refine at_fld (.inl rfl) (lk_there (by decide) (lk_there (by decide) lk_here)) hS.cls hS.ne ?_
        refine we_int ?_
        walk_at "ix"
        refine ud_neg ?_
        refine wa_cons ?_
        refine we_un ?_
        refine we_ix ?_ (fun _ _ => rfl)
        refine we_attr ?_ (by rfl)
        refine wv 0 rfl ?_
        refine at_fld (.inl rfl) (lk_there (by decide) lk_here) hS.cls hS.np ?_
        refine we_int ?_
        walk_at "ix"
        refine ud_neg ?_
        refine wa_nil ?_
        refine use_sol c2.neg c1.neg c5.neg c3.neg ?_
        refine ud_neg ?_
        refine ws_ret ?_
        refine we_bin ?_
        refine we_bin ?_
        refine we_bin ?_
        refine we_bin ?_
        refine wv 3 rfl ?_
        refine wv 4 rfl ?_
        walk_at "op"
        refine wv 2 rfl ?_
        walk_at "op"
        refine wv 1 rfl ?_
        walk_at "op"
        refine we_int ?_
        walk_at "op"
        exact q
abbrev s_Span_limited : Stmt := inClass (top 12) 5
theorem sc_Span_limited : FnScope ["self", "word", "low", "high", "one", "bounds"] ["self", "word", "low", "high"] (defScope s_Span_limited) := ⟨rfl, rfl, rfl, by decide +kernel, rfl, by decide +kernel, by decide +kernel⟩
theorem ok_Span_limited {f : Addr} {fd : FuncData} (F : FunD K "limited" "Span.limited" (defArgs s_Span_limited) (defBody s_Span_limited) (defScope s_Span_limited) [] [] f fd) {C : Addr} (hS : SpC K C) (hB : HasMe P w K mg base 1 C "__bool__" (S_bool C)) (hG : HasFn P w K mg base 1 "greater" S_greater) (hL : HasFn P w K mg base 1 "lesser" S_lesser) (hM : HasMk P w K mg base 4 C "Span" (S_init C)) : FnOk P w K mg base CX0 6 f fd ["self", "word", "low", "high"] (spOf K (S_limited C)) := by
  refine fn_data (k := 5) F sc_Span_limited (fun ds M Φ h => ?_) (fun cdv A outer s H E ds M Φ hr h => ?_)
  · obtain ⟨t, lo, hi, ⟨rfl, q⟩ | ⟨rfl, q⟩⟩ := h
    all_goals rfl
  · obtain ⟨t, lo, hi, h⟩ := h
    rcases h with ⟨rfl, q⟩ | ⟨rfl, q⟩
    · skip
      cases t with
      | none =>
        cases lo with
        | none =>
          cases hi with
          | none =>
            refine ws_if ?_
            refine wt_not ?_
            refine wt_val ?_ (by intro _; rfl)
            refine wv 0 rfl ?_
            first
            | refine tr_own hB (hr.mono (by decide)) (.inl rfl) (use_boolS ⟨_, rfl, ?_⟩)
            | refine tr_own hB (hr.mono (by decide)) (.inl rfl) (use_boolN ⟨_, rfl, ?_⟩)
            refine ⟨fun hb => ?_, fun hb => ?_⟩
            · walk_at "tidy"
              refine ws_ret ?_
              refine wv 0 rfl ?_
              exact q
            · walk_at "dead"
          | some hi =>
            refine ws_if ?_
            refine wt_not ?_
            refine wt_val ?_ (by intro _; rfl)
            refine wv 0 rfl ?_
            first
            | refine tr_own hB (hr.mono (by decide)) (.inl rfl) (use_boolS ⟨_, rfl, ?_⟩)
            | refine tr_own hB (hr.mono (by decide)) (.inl rfl) (use_boolN ⟨_, rfl, ?_⟩)
            refine ⟨fun hb => ?_, fun hb => ?_⟩
            · walk_at "tidy"
              refine ws_ret ?_
              refine wv 0 rfl ?_
              exact q
            · walk_at "dead"
        | some lo =>
          cases hi with
          | none =>
            refine ws_if ?_
            refine wt_not ?_
            refine wt_val ?_ (by intro _; rfl)
            refine wv 0 rfl ?_
            first
            | refine tr_own hB (hr.mono (by decide)) (.inl rfl) (use_boolS ⟨_, rfl, ?_⟩)
            | refine tr_own hB (hr.mono (by decide)) (.inl rfl) (use_boolN ⟨_, rfl, ?_⟩)
            refine ⟨fun hb => ?_, fun hb => ?_⟩
            · walk_at "tidy"
              refine ws_ret ?_
              refine wv 0 rfl ?_
              exact q
            · walk_at "dead"
          | some hi =>
            refine ws_if ?_
            refine wt_not ?_
            refine wt_val ?_ (by intro _; rfl)
            refine wv 0 rfl ?_
            first
            | refine tr_own hB (hr.mono (by decide)) (.inl rfl) (use_boolS ⟨_, rfl, ?_⟩)
            | refine tr_own hB (hr.mono (by decide)) (.inl rfl) (use_boolN ⟨_, rfl, ?_⟩)
            refine ⟨fun hb => ?_, fun hb => ?_⟩
            · walk_at "tidy"
              refine ws_ret ?_
              refine wv 0 rfl ?_
              exact q
            · walk_at "dead"
      | some t =>
        cases lo with
        | none =>
          cases hi with
          | none =>
            refine ws_if ?_
            refine wt_not ?_
            refine wt_val ?_ (by intro _; rfl)
            refine wv 0 rfl ?_
            first
            | refine tr_own hB (hr.mono (by decide)) (.inl rfl) (use_boolS ⟨_, rfl, ?_⟩)
            | refine tr_own hB (hr.mono (by decide)) (.inl rfl) (use_boolN ⟨_, rfl, ?_⟩)
            refine ⟨fun hb => ?_, fun hb => ?_⟩
            · walk_at "dead"
            · walk_at "tidy"
              refine ws_nil ?_
              refine ws_set 4 sc_Span_limited.nd ?_
              refine we_if ?_
              refine wt_cmp ?_ (nomark _)
              refine wv 1 rfl ?_
              refine we_str ?_
              walk_at "op"
              refine ⟨_, rfl, ?_⟩
              refine ⟨fun hb => ?_, fun hb => ?_⟩
              · walk_at "dead"
              · walk_at "tidy"
                refine we_attr ?_ (by rfl)
                refine wv 0 rfl ?_
                refine at_fld (.inl rfl) (lk_there (by decide) lk_here) hS.cls hS.np ?_
                refine ws_set 5 sc_Span_limited.nd ?_
                refine we_tup ?_
                refine wa_cons ?_
                refine we_if ?_
                refine wt_cmp ?_ (nomark _)
                refine wv 2 rfl ?_
                refine we_non ?_
                walk_at "op"
                refine ⟨_, rfl, ?_⟩
                refine ⟨fun hb => ?_, fun hb => ?_⟩
                · walk_at "tidy"
                  refine we_ix ?_ (fun _ _ => rfl)
                  refine wv 4 rfl ?_
                  refine we_int ?_
                  walk_at "ix"
                  refine wa_cons ?_
                  refine we_if ?_
                  refine wt_cmp ?_ (nomark _)
                  refine wv 3 rfl ?_
                  refine we_non ?_
                  walk_at "op"
                  refine ⟨_, rfl, ?_⟩
                  refine ⟨fun hb => ?_, fun hb => ?_⟩
                  · walk_at "tidy"
                    refine we_ix ?_ (fun _ _ => rfl)
                    refine wv 4 rfl ?_
                    refine we_int ?_
                    walk_at "ix"
                    refine wa_nil ?_
                    refine ⟨(by walk_at "size"), ?_⟩
                    refine ws_if ?_
                    refine wt_cmp ?_ (nomark _)
                    refine wv 1 rfl ?_
                    refine we_str ?_
                    walk_at "op"
                    refine ⟨_, rfl, ?_⟩
                    refine ⟨fun hb => ?_, fun hb => ?_⟩
                    · walk_at "dead"
                    · walk_at "tidy"
                      refine ws_nil ?_
                      refine ws_ret ?_
                      refine wmkS hM (hr.mono (by decide)) ?_
                      refine wa_cons ?_
                      refine we_attr ?_ (by rfl)
                      refine wv 0 rfl ?_
                      refine at_fld (.inl rfl) lk_here hS.cls hS.nb ?_
                      refine wa_cons ?_
                      refine wv 5 rfl ?_
                      refine wa_cons ?_
                      refine we_attr ?_ (by rfl)
                      refine wv 0 rfl ?_
                      refine at_fld (.inl rfl) (lk_there (by decide) (lk_there (by decide) lk_here)) hS.cls hS.ne ?_
                      refine wa_nil ?_
                      refine ⟨_, _, _, _, _, _, rfl, ?_⟩
                      exact q
                  · walk_at "dead"
                · walk_at "dead"
          | some hi =>
            refine ws_if ?_
            refine wt_not ?_
            refine wt_val ?_ (by intro _; rfl)
            refine wv 0 rfl ?_
            first
            | refine tr_own hB (hr.mono (by decide)) (.inl rfl) (use_boolS ⟨_, rfl, ?_⟩)
            | refine tr_own hB (hr.mono (by decide)) (.inl rfl) (use_boolN ⟨_, rfl, ?_⟩)
            refine ⟨fun hb => ?_, fun hb => ?_⟩
            · walk_at "dead"
            · walk_at "tidy"
              refine ws_nil ?_
              refine ws_set 4 sc_Span_limited.nd ?_
              refine we_if ?_
              refine wt_cmp ?_ (nomark _)
              refine wv 1 rfl ?_
              refine we_str ?_
              walk_at "op"
              refine ⟨_, rfl, ?_⟩
              refine ⟨fun hb => ?_, fun hb => ?_⟩
              · walk_at "dead"
              · walk_at "tidy"
                refine we_attr ?_ (by rfl)
                refine wv 0 rfl ?_
                refine at_fld (.inl rfl) (lk_there (by decide) lk_here) hS.cls hS.np ?_
                refine ws_set 5 sc_Span_limited.nd ?_
                refine we_tup ?_
                refine wa_cons ?_
                refine we_if ?_
                refine wt_cmp ?_ (nomark _)
                refine wv 2 rfl ?_
                refine we_non ?_
                walk_at "op"
                refine ⟨_, rfl, ?_⟩
                refine ⟨fun hb => ?_, fun hb => ?_⟩
                · walk_at "tidy"
                  refine we_ix ?_ (fun _ _ => rfl)
                  refine wv 4 rfl ?_
                  refine we_int ?_
                  walk_at "ix"
                  refine wa_cons ?_
                  refine we_if ?_
                  refine wt_cmp ?_ (nomark _)
                  refine wv 3 rfl ?_
                  refine we_non ?_
                  walk_at "op"
                  refine ⟨_, rfl, ?_⟩
                  refine ⟨fun hb => ?_, fun hb => ?_⟩
                  · walk_at "dead"
                  · walk_at "tidy"
                    refine wcf hL (hr.mono (by decide)) ?_
                    refine wa_cons ?_
                    refine we_ix ?_ (fun _ _ => rfl)
                    refine wv 4 rfl ?_
                    refine we_int ?_
                    walk_at "ix"
                    refine wa_cons ?_
                    refine wv 3 rfl ?_
                    refine wa_nil ?_
                    refine use_lesser ?_
                    refine wa_nil ?_
                    refine ⟨(by walk_at "size"), ?_⟩
                    refine ws_if ?_
                    refine wt_cmp ?_ (nomark _)
                    refine wv 1 rfl ?_
                    refine we_str ?_
                    walk_at "op"
                    refine ⟨_, rfl, ?_⟩
                    refine ⟨fun hb => ?_, fun hb => ?_⟩
                    · walk_at "dead"
                    · walk_at "tidy"
                      refine ws_nil ?_
                      refine ws_ret ?_
                      refine wmkS hM (hr.mono (by decide)) ?_
                      refine wa_cons ?_
                      refine we_attr ?_ (by rfl)
                      refine wv 0 rfl ?_
                      refine at_fld (.inl rfl) lk_here hS.cls hS.nb ?_
                      refine wa_cons ?_
                      refine wv 5 rfl ?_
                      refine wa_cons ?_
                      refine we_attr ?_ (by rfl)
                      refine wv 0 rfl ?_
                      refine at_fld (.inl rfl) (lk_there (by decide) (lk_there (by decide) lk_here)) hS.cls hS.ne ?_
                      refine wa_nil ?_
                      refine ⟨_, _, _, _, _, _, rfl, ?_⟩
                      exact q
                · walk_at "dead"
        | some lo =>
          cases hi with
          | none =>
            refine ws_if ?_
            refine wt_not ?_
            refine wt_val ?_ (by intro _; rfl)
            refine wv 0 rfl ?_
            first
            | refine tr_own hB (hr.mono (by decide)) (.inl rfl) (use_boolS ⟨_, rfl, ?_⟩)
            | refine tr_own hB (hr.mono (by decide)) (.inl rfl) (use_boolN ⟨_, rfl, ?_⟩)
            refine ⟨fun hb => ?_, fun hb => ?_⟩
            · walk_at "dead"
            · walk_at "tidy"
              refine ws_nil ?_
              refine ws_set 4 sc_Span_limited.nd ?_
              refine we_if ?_
              refine wt_cmp ?_ (nomark _)
              refine wv 1 rfl ?_
              refine we_str ?_
              walk_at "op"
              refine ⟨_, rfl, ?_⟩
              refine ⟨fun hb => ?_, fun hb => ?_⟩
              · walk_at "dead"
              · walk_at "tidy"
                refine we_attr ?_ (by rfl)
                refine wv 0 rfl ?_
                refine at_fld (.inl rfl) (lk_there (by decide) lk_here) hS.cls hS.np ?_
                refine ws_set 5 sc_Span_limited.nd ?_
                refine we_tup ?_
                refine wa_cons ?_
                refine we_if ?_
                refine wt_cmp ?_ (nomark _)
                refine wv 2 rfl ?_
                refine we_non ?_
                walk_at "op"
                refine ⟨_, rfl, ?_⟩
                refine ⟨fun hb => ?_, fun hb => ?_⟩
                · walk_at "dead"
                · walk_at "tidy"
                  refine wcf hG (hr.mono (by decide)) ?_
                  refine wa_cons ?_
                  refine we_ix ?_ (fun _ _ => rfl)
                  refine wv 4 rfl ?_
                  refine we_int ?_
                  walk_at "ix"
                  refine wa_cons ?_
                  refine wv 2 rfl ?_
                  refine wa_nil ?_
                  refine use_greater ?_
                  refine wa_cons ?_
                  refine we_if ?_
                  refine wt_cmp ?_ (nomark _)
                  refine wv 3 rfl ?_
                  refine we_non ?_
                  walk_at "op"
                  refine ⟨_, rfl, ?_⟩
                  refine ⟨fun hb => ?_, fun hb => ?_⟩
                  · walk_at "tidy"
                    refine we_ix ?_ (fun _ _ => rfl)
                    refine wv 4 rfl ?_
                    refine we_int ?_
                    walk_at "ix"
                    refine wa_nil ?_
                    refine ⟨(by walk_at "size"), ?_⟩
                    refine ws_if ?_
                    refine wt_cmp ?_ (nomark _)
                    refine wv 1 rfl ?_
                    refine we_str ?_
                    walk_at "op"
                    refine ⟨_, rfl, ?_⟩
                    refine ⟨fun hb => ?_, fun hb => ?_⟩
                    · walk_at "dead"
                    · walk_at "tidy"
                      refine ws_nil ?_
                      refine ws_ret ?_
                      refine wmkS hM (hr.mono (by decide)) ?_
                      refine wa_cons ?_
                      refine we_attr ?_ (by rfl)
                      refine wv 0 rfl ?_
                      refine at_fld (.inl rfl) lk_here hS.cls hS.nb ?_
                      refine wa_cons ?_
                      refine wv 5 rfl ?_
                      refine wa_cons ?_
                      refine we_attr ?_ (by rfl)
                      refine wv 0 rfl ?_
                      refine at_fld (.inl rfl) (lk_there (by decide) (lk_there (by decide) lk_here)) hS.cls hS.ne ?_
                      refine wa_nil ?_
                      refine ⟨_, _, _, _, _, _, rfl, ?_⟩
                      exact q
                  · walk_at "dead"
          | some hi =>
            refine ws_if ?_
            refine wt_not ?_
            refine wt_val ?_ (by intro _; rfl)
            refine wv 0 rfl ?_
            first
            | refine tr_own hB (hr.mono (by decide)) (.inl rfl) (use_boolS ⟨_, rfl, ?_⟩)
            | refine tr_own hB (hr.mono (by decide)) (.inl rfl) (use_boolN ⟨_, rfl, ?_⟩)
            refine ⟨fun hb => ?_, fun hb => ?_⟩
            · walk_at "dead"
            · walk_at "tidy"
              refine ws_nil ?_
              refine ws_set 4 sc_Span_limited.nd ?_
              refine we_if ?_
              refine wt_cmp ?_ (nomark _)
              refine wv 1 rfl ?_
              refine we_str ?_
              walk_at "op"
              refine ⟨_, rfl, ?_⟩
              refine ⟨fun hb => ?_, fun hb => ?_⟩
              · walk_at "dead"
              · walk_at "tidy"
                refine we_attr ?_ (by rfl)
                refine wv 0 rfl ?_
                refine at_fld (.inl rfl) (lk_there (by decide) lk_here) hS.cls hS.np ?_
                refine ws_set 5 sc_Span_limited.nd ?_
                refine we_tup ?_
                refine wa_cons ?_
                refine we_if ?_
                refine wt_cmp ?_ (nomark _)
                refine wv 2 rfl ?_
                refine we_non ?_
                walk_at "op"
                refine ⟨_, rfl, ?_⟩
                refine ⟨fun hb => ?_, fun hb => ?_⟩
                · walk_at "dead"
                · walk_at "tidy"
                  refine wcf hG (hr.mono (by decide)) ?_
                  refine wa_cons ?_
                  refine we_ix ?_ (fun _ _ => rfl)
                  refine wv 4 rfl ?_
                  refine we_int ?_
                  walk_at "ix"
                  refine wa_cons ?_
                  refine wv 2 rfl ?_
                  refine wa_nil ?_
                  refine use_greater ?_
                  refine wa_cons ?_
                  refine we_if ?_
                  refine wt_cmp ?_ (nomark _)
                  refine wv 3 rfl ?_
                  refine we_non ?_
                  walk_at "op"
                  refine ⟨_, rfl, ?_⟩
                  refine ⟨fun hb => ?_, fun hb => ?_⟩
                  · walk_at "dead"
                  · walk_at "tidy"
                    refine wcf hL (hr.mono (by decide)) ?_
                    refine wa_cons ?_
                    refine we_ix ?_ (fun _ _ => rfl)
                    refine wv 4 rfl ?_
                    refine we_int ?_
                    walk_at "ix"
                    refine wa_cons ?_
                    refine wv 3 rfl ?_
                    refine wa_nil ?_
                    refine use_lesser ?_
                    refine wa_nil ?_
                    refine ⟨(by walk_at "size"), ?_⟩
                    refine ws_if ?_
                    refine wt_cmp ?_ (nomark _)
                    refine wv 1 rfl ?_
                    refine we_str ?_
                    walk_at "op"
                    refine ⟨_, rfl, ?_⟩
                    refine ⟨fun hb => ?_, fun hb => ?_⟩
                    · walk_at "dead"
                    · walk_at "tidy"
                      refine ws_nil ?_
                      refine ws_ret ?_
                      refine wmkS hM (hr.mono (by decide)) ?_
                      refine wa_cons ?_
                      refine we_attr ?_ (by rfl)
                      refine wv 0 rfl ?_
                      refine at_fld (.inl rfl) lk_here hS.cls hS.nb ?_
                      refine wa_cons ?_
                      refine wv 5 rfl ?_
                      refine wa_cons ?_
                      refine we_attr ?_ (by rfl)
                      refine wv 0 rfl ?_
                      refine at_fld (.inl rfl) (lk_there (by decide) (lk_there (by decide) lk_here)) hS.cls hS.ne ?_
                      refine wa_nil ?_
                      refine ⟨_, _, _, _, _, _, rfl, ?_⟩
                      exact q
    · skip
      cases t with
      | none =>
        cases lo with
        | none =>
          cases hi with
          | none =>
            refine ws_if ?_
            refine wt_not ?_
            refine wt_val ?_ (by intro _; rfl)
            refine wv 0 rfl ?_
            first
            | refine tr_own hB (hr.mono (by decide)) (.inl rfl) (use_boolS ⟨_, rfl, ?_⟩)
            | refine tr_own hB (hr.mono (by decide)) (.inl rfl) (use_boolN ⟨_, rfl, ?_⟩)
            refine ⟨fun hb => ?_, fun hb => ?_⟩
            · walk_at "tidy"
              refine ws_ret ?_
              refine wv 0 rfl ?_
              exact q
            · walk_at "dead"
          | some hi =>
            refine ws_if ?_
            refine wt_not ?_
            refine wt_val ?_ (by intro _; rfl)
            refine wv 0 rfl ?_
            first
            | refine tr_own hB (hr.mono (by decide)) (.inl rfl) (use_boolS ⟨_, rfl, ?_⟩)
            | refine tr_own hB (hr.mono (by decide)) (.inl rfl) (use_boolN ⟨_, rfl, ?_⟩)
            refine ⟨fun hb => ?_, fun hb => ?_⟩
            · walk_at "tidy"
              refine ws_ret ?_
              refine wv 0 rfl ?_
              exact q
            · walk_at "dead"
        | some lo =>
          cases hi with
          | none =>
            refine ws_if ?_
            refine wt_not ?_
            refine wt_val ?_ (by intro _; rfl)
            refine wv 0 rfl ?_
            first
            | refine tr_own hB (hr.mono (by decide)) (.inl rfl) (use_boolS ⟨_, rfl, ?_⟩)
            | refine tr_own hB (hr.mono (by decide)) (.inl rfl) (use_boolN ⟨_, rfl, ?_⟩)
            refine ⟨fun hb => ?_, fun hb => ?_⟩
            · walk_at "tidy"
              refine ws_ret ?_
              refine wv 0 rfl ?_
              exact q
            · walk_at "dead"
          | some hi =>
            refine ws_if ?_
            refine wt_not ?_
            refine wt_val ?_ (by intro _; rfl)
            refine wv 0 rfl ?_
            first
            | refine tr_own hB (hr.mono (by decide)) (.inl rfl) (use_boolS ⟨_, rfl, ?_⟩)
            | refine tr_own hB (hr.mono (by decide)) (.inl rfl) (use_boolN ⟨_, rfl, ?_⟩)
            refine ⟨fun hb => ?_, fun hb => ?_⟩
            · walk_at "tidy"
              refine ws_ret ?_
              refine wv 0 rfl ?_
              exact q
            · walk_at "dead"
      | some t =>
        cases lo with
        | none =>
          cases hi with
          | none =>
            refine ws_if ?_
            refine wt_not ?_
            refine wt_val ?_ (by intro _; rfl)
            refine wv 0 rfl ?_
            first
            | refine tr_own hB (hr.mono (by decide)) (.inl rfl) (use_boolS ⟨_, rfl, ?_⟩)
            | refine tr_own hB (hr.mono (by decide)) (.inl rfl) (use_boolN ⟨_, rfl, ?_⟩)
            refine ⟨fun hb => ?_, fun hb => ?_⟩
            · walk_at "dead"
            · walk_at "tidy"
              refine ws_nil ?_
              refine ws_set 4 sc_Span_limited.nd ?_
              refine we_if ?_
              refine wt_cmp ?_ (nomark _)
              refine wv 1 rfl ?_
              refine we_str ?_
              walk_at "op"
              refine ⟨_, rfl, ?_⟩
              refine ⟨fun hb => ?_, fun hb => ?_⟩
              · walk_at "tidy"
                refine we_attr ?_ (by rfl)
                refine wv 0 rfl ?_
                refine at_fld (.inl rfl) lk_here hS.cls hS.nb ?_
                refine ws_set 5 sc_Span_limited.nd ?_
                refine we_tup ?_
                refine wa_cons ?_
                refine we_if ?_
                refine wt_cmp ?_ (nomark _)
                refine wv 2 rfl ?_
                refine we_non ?_
                walk_at "op"
                refine ⟨_, rfl, ?_⟩
                refine ⟨fun hb => ?_, fun hb => ?_⟩
                · walk_at "tidy"
                  refine we_ix ?_ (fun _ _ => rfl)
                  refine wv 4 rfl ?_
                  refine we_int ?_
                  walk_at "ix"
                  refine wa_cons ?_
                  refine we_if ?_
                  refine wt_cmp ?_ (nomark _)
                  refine wv 3 rfl ?_
                  refine we_non ?_
                  walk_at "op"
                  refine ⟨_, rfl, ?_⟩
                  refine ⟨fun hb => ?_, fun hb => ?_⟩
                  · walk_at "tidy"
                    refine we_ix ?_ (fun _ _ => rfl)
                    refine wv 4 rfl ?_
                    refine we_int ?_
                    walk_at "ix"
                    refine wa_nil ?_
                    refine ⟨(by walk_at "size"), ?_⟩
                    refine ws_if ?_
                    refine wt_cmp ?_ (nomark _)
                    refine wv 1 rfl ?_
                    refine we_str ?_
                    walk_at "op"
                    refine ⟨_, rfl, ?_⟩
                    refine ⟨fun hb => ?_, fun hb => ?_⟩
                    · walk_at "tidy"
                      refine ws_ret ?_
                      refine wmkS hM (hr.mono (by decide)) ?_
                      refine wa_cons ?_
                      refine wv 5 rfl ?_
                      refine wa_cons ?_
                      refine we_attr ?_ (by rfl)
                      refine wv 0 rfl ?_
                      refine at_fld (.inl rfl) (lk_there (by decide) lk_here) hS.cls hS.np ?_
                      refine wa_cons ?_
                      refine we_attr ?_ (by rfl)
                      refine wv 0 rfl ?_
                      refine at_fld (.inl rfl) (lk_there (by decide) (lk_there (by decide) lk_here)) hS.cls hS.ne ?_
                      refine wa_nil ?_
                      refine ⟨_, _, _, _, _, _, rfl, ?_⟩
                      exact q
                    · walk_at "dead"
                  · walk_at "dead"
                · walk_at "dead"
              · walk_at "dead"
          | some hi =>
            refine ws_if ?_
            refine wt_not ?_
            refine wt_val ?_ (by intro _; rfl)
            refine wv 0 rfl ?_
            first
            | refine tr_own hB (hr.mono (by decide)) (.inl rfl) (use_boolS ⟨_, rfl, ?_⟩)
            | refine tr_own hB (hr.mono (by decide)) (.inl rfl) (use_boolN ⟨_, rfl, ?_⟩)
            refine ⟨fun hb => ?_, fun hb => ?_⟩
            · walk_at "dead"
            · walk_at "tidy"
              refine ws_nil ?_
              refine ws_set 4 sc_Span_limited.nd ?_
              refine we_if ?_
              refine wt_cmp ?_ (nomark _)
              refine wv 1 rfl ?_
              refine we_str ?_
              walk_at "op"
              refine ⟨_, rfl, ?_⟩
              refine ⟨fun hb => ?_, fun hb => ?_⟩
              · walk_at "tidy"
                refine we_attr ?_ (by rfl)
                refine wv 0 rfl ?_
                refine at_fld (.inl rfl) lk_here hS.cls hS.nb ?_
                refine ws_set 5 sc_Span_limited.nd ?_
                refine we_tup ?_
                refine wa_cons ?_
                refine we_if ?_
                refine wt_cmp ?_ (nomark _)
                refine wv 2 rfl ?_
                refine we_non ?_
                walk_at "op"
                refine ⟨_, rfl, ?_⟩
                refine ⟨fun hb => ?_, fun hb => ?_⟩
                · walk_at "tidy"
                  refine we_ix ?_ (fun _ _ => rfl)
                  refine wv 4 rfl ?_
                  refine we_int ?_
                  walk_at "ix"
                  refine wa_cons ?_
                  refine we_if ?_
                  refine wt_cmp ?_ (nomark _)
                  refine wv 3 rfl ?_
                  refine we_non ?_
                  walk_at "op"
                  refine ⟨_, rfl, ?_⟩
                  refine ⟨fun hb => ?_, fun hb => ?_⟩
                  · walk_at "dead"
                  · walk_at "tidy"
                    refine wcf hL (hr.mono (by decide)) ?_
                    refine wa_cons ?_
                    refine we_ix ?_ (fun _ _ => rfl)
                    refine wv 4 rfl ?_
                    refine we_int ?_
                    walk_at "ix"
                    refine wa_cons ?_
                    refine wv 3 rfl ?_
                    refine wa_nil ?_
                    refine use_lesser ?_
                    refine wa_nil ?_
                    refine ⟨(by walk_at "size"), ?_⟩
                    refine ws_if ?_
                    refine wt_cmp ?_ (nomark _)
                    refine wv 1 rfl ?_
                    refine we_str ?_
                    walk_at "op"
                    refine ⟨_, rfl, ?_⟩
                    refine ⟨fun hb => ?_, fun hb => ?_⟩
                    · walk_at "tidy"
                      refine ws_ret ?_
                      refine wmkS hM (hr.mono (by decide)) ?_
                      refine wa_cons ?_
                      refine wv 5 rfl ?_
                      refine wa_cons ?_
                      refine we_attr ?_ (by rfl)
                      refine wv 0 rfl ?_
                      refine at_fld (.inl rfl) (lk_there (by decide) lk_here) hS.cls hS.np ?_
                      refine wa_cons ?_
                      refine we_attr ?_ (by rfl)
                      refine wv 0 rfl ?_
                      refine at_fld (.inl rfl) (lk_there (by decide) (lk_there (by decide) lk_here)) hS.cls hS.ne ?_
                      refine wa_nil ?_
                      refine ⟨_, _, _, _, _, _, rfl, ?_⟩
                      exact q
                    · walk_at "dead"
                · walk_at "dead"
              · walk_at "dead"
        | some lo =>
          cases hi with
          | none =>
            refine ws_if ?_
            refine wt_not ?_
            refine wt_val ?_ (by intro _; rfl)
            refine wv 0 rfl ?_
            first
            | refine tr_own hB (hr.mono (by decide)) (.inl rfl) (use_boolS ⟨_, rfl, ?_⟩)
            | refine tr_own hB (hr.mono (by decide)) (.inl rfl) (use_boolN ⟨_, rfl, ?_⟩)
            refine ⟨fun hb => ?_, fun hb => ?_⟩
            · walk_at "dead"
            · walk_at "tidy"
              refine ws_nil ?_
              refine ws_set 4 sc_Span_limited.nd ?_
              refine we_if ?_
              refine wt_cmp ?_ (nomark _)
              refine wv 1 rfl ?_
              refine we_str ?_
              walk_at "op"
              refine ⟨_, rfl, ?_⟩
              refine ⟨fun hb => ?_, fun hb => ?_⟩
              · walk_at "tidy"
                refine we_attr ?_ (by rfl)
                refine wv 0 rfl ?_
                refine at_fld (.inl rfl) lk_here hS.cls hS.nb ?_
                refine ws_set 5 sc_Span_limited.nd ?_
                refine we_tup ?_
                refine wa_cons ?_
                refine we_if ?_
                refine wt_cmp ?_ (nomark _)
                refine wv 2 rfl ?_
                refine we_non ?_
                walk_at "op"
                refine ⟨_, rfl, ?_⟩
                refine ⟨fun hb => ?_, fun hb => ?_⟩
                · walk_at "dead"
                · walk_at "tidy"
                  refine wcf hG (hr.mono (by decide)) ?_
                  refine wa_cons ?_
                  refine we_ix ?_ (fun _ _ => rfl)
                  refine wv 4 rfl ?_
                  refine we_int ?_
                  walk_at "ix"
                  refine wa_cons ?_
                  refine wv 2 rfl ?_
                  refine wa_nil ?_
                  refine use_greater ?_
                  refine wa_cons ?_
                  refine we_if ?_
                  refine wt_cmp ?_ (nomark _)
                  refine wv 3 rfl ?_
                  refine we_non ?_
                  walk_at "op"
                  refine ⟨_, rfl, ?_⟩
                  refine ⟨fun hb => ?_, fun hb => ?_⟩
                  · walk_at "tidy"
                    refine we_ix ?_ (fun _ _ => rfl)
                    refine wv 4 rfl ?_
                    refine we_int ?_
                    walk_at "ix"
                    refine wa_nil ?_
                    refine ⟨(by walk_at "size"), ?_⟩
                    refine ws_if ?_
                    refine wt_cmp ?_ (nomark _)
                    refine wv 1 rfl ?_
                    refine we_str ?_
                    walk_at "op"
                    refine ⟨_, rfl, ?_⟩
                    refine ⟨fun hb => ?_, fun hb => ?_⟩
                    · walk_at "tidy"
                      refine ws_ret ?_
                      refine wmkS hM (hr.mono (by decide)) ?_
                      refine wa_cons ?_
                      refine wv 5 rfl ?_
                      refine wa_cons ?_
                      refine we_attr ?_ (by rfl)
                      refine wv 0 rfl ?_
                      refine at_fld (.inl rfl) (lk_there (by decide) lk_here) hS.cls hS.np ?_
                      refine wa_cons ?_
                      refine we_attr ?_ (by rfl)
                      refine wv 0 rfl ?_
                      refine at_fld (.inl rfl) (lk_there (by decide) (lk_there (by decide) lk_here)) hS.cls hS.ne ?_
                      refine wa_nil ?_
                      refine ⟨_, _, _, _, _, _, rfl, ?_⟩
                      exact q
                    · walk_at "dead"
                  · walk_at "dead"
              · walk_at "dead"
          | some hi =>
            refine ws_if ?_
            refine wt_not ?_
            refine wt_val ?_ (by intro _; rfl)
            refine wv 0 rfl ?_
            first
            | refine tr_own hB (hr.mono (by decide)) (.inl rfl) (use_boolS ⟨_, rfl, ?_⟩)
            | refine tr_own hB (hr.mono (by decide)) (.inl rfl) (use_boolN ⟨_, rfl, ?_⟩)
            refine ⟨fun hb => ?_, fun hb => ?_⟩
            · walk_at "dead"
            · walk_at "tidy"
              refine ws_nil ?_
              refine ws_set 4 sc_Span_limited.nd ?_
              refine we_if ?_
              refine wt_cmp ?_ (nomark _)
              refine wv 1 rfl ?_
              refine we_str ?_
              walk_at "op"
              refine ⟨_, rfl, ?_⟩
              refine ⟨fun hb => ?_, fun hb => ?_⟩
              · walk_at "tidy"
                refine we_attr ?_ (by rfl)
                refine wv 0 rfl ?_
                refine at_fld (.inl rfl) lk_here hS.cls hS.nb ?_
                refine ws_set 5 sc_Span_limited.nd ?_
                refine we_tup ?_
                refine wa_cons ?_
                refine we_if ?_
                refine wt_cmp ?_ (nomark _)
                refine wv 2 rfl ?_
                refine we_non ?_
                walk_at "op"
                refine ⟨_, rfl, ?_⟩
                refine ⟨fun hb => ?_, fun hb => ?_⟩
                · walk_at "dead"
                · walk_at "tidy"
                  refine wcf hG (hr.mono (by decide)) ?_
                  refine wa_cons ?_
                  refine we_ix ?_ (fun _ _ => rfl)
                  refine wv 4 rfl ?_
                  refine we_int ?_
                  walk_at "ix"
                  refine wa_cons ?_
                  refine wv 2 rfl ?_
                  refine wa_nil ?_
                  refine use_greater ?_
                  refine wa_cons ?_
                  refine we_if ?_
                  refine wt_cmp ?_ (nomark _)
                  refine wv 3 rfl ?_
                  refine we_non ?_
                  walk_at "op"
                  refine ⟨_, rfl, ?_⟩
                  refine ⟨fun hb => ?_, fun hb => ?_⟩
                  · walk_at "dead"
                  · walk_at "tidy"
                    refine wcf hL (hr.mono (by decide)) ?_
                    refine wa_cons ?_
                    refine we_ix ?_ (fun _ _ => rfl)
                    refine wv 4 rfl ?_
                    refine we_int ?_
                    walk_at "ix"
                    refine wa_cons ?_
                    refine wv 3 rfl ?_
                    refine wa_nil ?_
                    refine use_lesser ?_
                    refine wa_nil ?_
                    refine ⟨(by walk_at "size"), ?_⟩
                    refine ws_if ?_
                    refine wt_cmp ?_ (nomark _)
                    refine wv 1 rfl ?_
                    refine we_str ?_
                    walk_at "op"
                    refine ⟨_, rfl, ?_⟩
                    refine ⟨fun hb => ?_, fun hb => ?_⟩
                    · walk_at "tidy"
                      refine ws_ret ?_
                      refine wmkS hM (hr.mono (by decide)) ?_
                      refine wa_cons ?_
                      refine wv 5 rfl ?_
                      refine wa_cons ?_
                      refine we_attr ?_ (by rfl)
                      refine wv 0 rfl ?_
                      refine at_fld (.inl rfl) (lk_there (by decide) lk_here) hS.cls hS.np ?_
                      refine wa_cons ?_
                      refine we_attr ?_ (by rfl)
                      refine wv 0 rfl ?_
                      refine at_fld (.inl rfl) (lk_there (by decide) (lk_there (by decide) lk_here)) hS.cls hS.ne ?_
                      refine wa_nil ?_
                      refine ⟨_, _, _, _, _, _, rfl, ?_⟩
                      exact q
                    · walk_at "dead"
              · walk_at "dead"
abbrev s_Span_stepped : Stmt := inClass (top 12) 6
theorem sc_Span_stepped : FnScope ["self", "by", "low", "high", "belief", "place"] ["self", "by", "low", "high"] (defScope s_Span_stepped) := ⟨rfl, rfl, rfl, by decide +kernel, rfl, by decide +kernel, by decide +kernel⟩
theorem ok_Span_stepped {f : Addr} {fd : FuncData} (F : FunD K "stepped" "Span.stepped" (defArgs s_Span_stepped) (defBody s_Span_stepped) (defScope s_Span_stepped) [] [] f fd) {C : Addr} (hS : SpC K C) (hB : HasMe P w K mg base 1 C "__bool__" (S_bool C)) (hM : HasMk P w K mg base 4 C "Span" (S_init C)) : FnOk P w K mg base CX0 6 f fd ["self", "by", "low", "high"] (spOf K (S_stepped C)) := by
  refine fn_data (k := 5) F sc_Span_stepped (fun ds M Φ h => ?_) (fun cdv A outer s H E ds M Φ hr h => ?_)
  · obtain ⟨t, b, lo, hi, rfl, q⟩ := h
    all_goals rfl
  · obtain ⟨t, b, lo, hi, rfl, q⟩ := h
    cases t with
    | none =>
      refine ws_if ?_
      refine wt_not ?_
      refine wt_val ?_ (by intro _; rfl)
      refine wv 0 rfl ?_
      first
      | refine tr_own hB (hr.mono (by decide)) (.inl rfl) (use_boolS ⟨_, rfl, ?_⟩)
      | refine tr_own hB (hr.mono (by decide)) (.inl rfl) (use_boolN ⟨_, rfl, ?_⟩)
      refine ⟨fun hb => ?_, fun hb => ?_⟩
      · walk_at "tidy"
        refine ws_ret ?_
        refine wv 0 rfl ?_
        exact q
      · walk_at "dead"
    | some t =>
      refine ws_if ?_
      refine wt_not ?_
      refine wt_val ?_ (by intro _; rfl)
      refine wv 0 rfl ?_
      first
      | refine tr_own hB (hr.mono (by decide)) (.inl rfl) (use_boolS ⟨_, rfl, ?_⟩)
      | refine tr_own hB (hr.mono (by decide)) (.inl rfl) (use_boolN ⟨_, rfl, ?_⟩)
      refine ⟨fun hb => ?_, fun hb => ?_⟩
      · walk_at "dead"
      · walk_at "tidy"
        refine ws_nil ?_
        refine ws_set 4 sc_Span_stepped.nd ?_
        refine we_tup ?_
        refine wa_cons ?_
        refine we_bin ?_
        refine we_ix ?_ (fun _ _ => rfl)
        refine we_attr ?_ (by rfl)
        refine wv 0 rfl ?_
        refine at_fld (.inl rfl) lk_here hS.cls hS.nb ?_
        refine we_int ?_
        walk_at "ix"
        refine wv 1 rfl ?_
        walk_at "op"
        refine wa_cons ?_
        refine we_bin ?_
        refine we_ix ?_ (fun _ _ => rfl)
        refine we_attr ?_ (by rfl)
        refine wv 0 rfl ?_
        refine at_fld (.inl rfl) lk_here hS.cls hS.nb ?_
        refine we_int ?_
        walk_at "ix"
        refine wv 1 rfl ?_
        walk_at "op"
        refine wa_nil ?_
        refine ⟨(by walk_at "size"), ?_⟩
        refine ws_set 5 sc_Span_stepped.nd ?_
        refine we_tup ?_
        refine wa_cons ?_
        refine we_bin ?_
        refine we_bin ?_
        refine we_ix ?_ (fun _ _ => rfl)
        refine we_attr ?_ (by rfl)
        refine wv 0 rfl ?_
        refine at_fld (.inl rfl) (lk_there (by decide) lk_here) hS.cls hS.np ?_
        refine we_int ?_
        walk_at "ix"
        refine wv 1 rfl ?_
        walk_at "op"
        refine wv 2 rfl ?_
        walk_at "op"
        refine wa_cons ?_
        refine we_bin ?_
        refine we_bin ?_
        refine we_ix ?_ (fun _ _ => rfl)
        refine we_attr ?_ (by rfl)
        refine wv 0 rfl ?_
        refine at_fld (.inl rfl) (lk_there (by decide) lk_here) hS.cls hS.np ?_
        refine we_int ?_
        walk_at "ix"
        refine wv 1 rfl ?_
        walk_at "op"
        refine wv 3 rfl ?_
        walk_at "op"
        refine wa_nil ?_
        refine ⟨(by walk_at "size"), ?_⟩
        refine ws_ret ?_
        refine wmkS hM (hr.mono (by decide)) ?_
        refine wa_cons ?_
        refine wv 4 rfl ?_
        refine wa_cons ?_
        refine wv 5 rfl ?_
        refine wa_cons ?_
        refine we_tup ?_
        refine wa_cons ?_
        refine we_bin ?_
        refine we_ix ?_ (fun _ _ => rfl)
        refine we_attr ?_ (by rfl)
        refine wv 0 rfl ?_
        refine at_fld (.inl rfl) (lk_there (by decide) (lk_there (by decide) lk_here)) hS.cls hS.ne ?_
        refine we_int ?_
        walk_at "ix"
        refine wv 2 rfl ?_
        walk_at "op"
        refine wa_cons ?_
        refine we_bin ?_
        refine we_ix ?_ (fun _ _ => rfl)
        refine we_attr ?_ (by rfl)
        refine wv 0 rfl ?_
        refine at_fld (.inl rfl) (lk_there (by decide) (lk_there (by decide) lk_here)) hS.cls hS.ne ?_
        refine we_int ?_
        walk_at "ix"
        refine wv 3 rfl ?_
        walk_at "op"
        refine wa_nil ?_
        refine ⟨(by walk_at "size"), ?_⟩
        refine wa_nil ?_
        refine ⟨_, _, _, _, _, _, rfl, ?_⟩
        exact q
abbrev s_Span_sighted : Stmt := inClass (top 12) 7
theorem sc_Span_sighted : FnScope ["self", "low", "high", "blur", "near"] ["self", "low", "high", "blur"] (defScope s_Span_sighted) := ⟨rfl, rfl, rfl, by decide +kernel, rfl, by decide +kernel, by decide +kernel⟩
theorem ok_Span_sighted {f : Addr} {fd : FuncData} (F : FunD K "sighted" "Span.sighted" (defArgs s_Span_sighted) (defBody s_Span_sighted) (defScope s_Span_sighted) [] [] f fd) {C : Addr} (hS : SpC K C) (hB : HasMe P w K mg base 1 C "__bool__" (S_bool C)) (hM : HasMk P w K mg base 4 C "Span" (S_init C)) (hLi : HasMe P w K mg base 6 C "limited" (S_limited C)) : FnOk P w K mg base CX0 7 f fd ["self", "low", "high", "blur"] (spOf K (S_sighted C)) := by
  refine fn_data (k := 6) F sc_Span_sighted (fun ds M Φ h => ?_) (fun cdv A outer s H E ds M Φ hr h => ?_)
  · obtain ⟨t, lo, hi, b, rfl, q⟩ := h
    all_goals rfl
  · obtain ⟨t, lo, hi, b, rfl, q⟩ := h
    cases el : limP t lo hi with
    | none =>
      unfold sightT at q
      rw [el] at q
      refine ws_set 4 sc_Span_sighted.nd ?_
      refine wme hLi (hr.mono (by decide)) hS.cls ?_
      refine wv 0 rfl ?_
      refine ⟨⟨flds _, .inl rfl, flds_no (by decide) (by decide) (by decide)⟩, ?_⟩
      refine wa_cons ?_
      refine we_str ?_
      refine wa_cons ?_
      refine wv 1 rfl ?_
      refine wa_cons ?_
      refine wv 2 rfl ?_
      refine wa_nil ?_
      refine use_limP ?_
      rw [el]
      refine ws_if ?_
      refine wt_not ?_
      refine wt_val ?_ (by intro _; rfl)
      refine wv 4 rfl ?_
      first
      | refine tr_own hB (hr.mono (by decide)) (.inl rfl) (use_boolS ⟨_, rfl, ?_⟩)
      | refine tr_own hB (hr.mono (by decide)) (.inl rfl) (use_boolN ⟨_, rfl, ?_⟩)
      refine ⟨fun hb => ?_, fun hb => ?_⟩
      · walk_at "tidy"
        refine ws_ret ?_
        refine wv 4 rfl ?_
        exact q
      · walk_at "dead"
    | some u =>
      unfold sightT at q
      rw [el] at q
      refine ws_set 4 sc_Span_sighted.nd ?_
      refine wme hLi (hr.mono (by decide)) hS.cls ?_
      refine wv 0 rfl ?_
      refine ⟨⟨flds _, .inl rfl, flds_no (by decide) (by decide) (by decide)⟩, ?_⟩
      refine wa_cons ?_
      refine we_str ?_
      refine wa_cons ?_
      refine wv 1 rfl ?_
      refine wa_cons ?_
      refine wv 2 rfl ?_
      refine wa_nil ?_
      refine use_limP ?_
      rw [el]
      refine ws_if ?_
      refine wt_not ?_
      refine wt_val ?_ (by intro _; rfl)
      refine wv 4 rfl ?_
      first
      | refine tr_own hB (hr.mono (by decide)) (.inl rfl) (use_boolS ⟨_, rfl, ?_⟩)
      | refine tr_own hB (hr.mono (by decide)) (.inl rfl) (use_boolN ⟨_, rfl, ?_⟩)
      refine ⟨fun hb => ?_, fun hb => ?_⟩
      · walk_at "dead"
      · walk_at "tidy"
        refine ws_nil ?_
        refine ws_ret ?_
        refine wmkS hM (hr.mono (by decide)) ?_
        refine wa_cons ?_
        refine we_tup ?_
        refine wa_cons ?_
        refine we_bin ?_
        refine we_ix ?_ (fun _ _ => rfl)
        refine we_attr ?_ (by rfl)
        refine wv 4 rfl ?_
        refine at_fld (.inl rfl) (lk_there (by decide) lk_here) hS.cls hS.np ?_
        refine we_int ?_
        walk_at "ix"
        refine wv 3 rfl ?_
        walk_at "op"
        refine wa_cons ?_
        refine we_bin ?_
        refine we_ix ?_ (fun _ _ => rfl)
        refine we_attr ?_ (by rfl)
        refine wv 4 rfl ?_
        refine at_fld (.inl rfl) (lk_there (by decide) lk_here) hS.cls hS.np ?_
        refine we_int ?_
        walk_at "ix"
        refine wv 3 rfl ?_
        walk_at "op"
        refine wa_nil ?_
        refine ⟨(by walk_at "size"), ?_⟩
        refine wa_cons ?_
        refine we_attr ?_ (by rfl)
        refine wv 4 rfl ?_
        refine at_fld (.inl rfl) (lk_there (by decide) lk_here) hS.cls hS.np ?_
        refine wa_cons ?_
        refine we_tup ?_
        refine wa_cons ?_
        refine we_un ?_
        refine wv 3 rfl ?_
        refine ud_neg ?_
        refine wa_cons ?_
        refine wv 3 rfl ?_
        refine wa_nil ?_
        refine ⟨(by walk_at "size"), ?_⟩
        refine wa_nil ?_
        refine ⟨_, _, _, _, _, _, rfl, ?_⟩
        exact q
abbrev s_Span_le : Stmt := inClass (top 12) 10
theorem sc_Span_le : FnScope ["self", "other", "one", "two"] ["self", "other"] (defScope s_Span_le) := ⟨rfl, rfl, rfl, by decide +kernel, rfl, by decide +kernel, by decide +kernel⟩
theorem ok_Span_le {f : Addr} {fd : FuncData} (F : FunD K "__le__" "Span.__le__" (defArgs s_Span_le) (defBody s_Span_le) (defScope s_Span_le) [] [] f fd) (B : Bf mg) {C : Addr} (hS : SpC K C) (hB : HasMe P w K mg base 1 C "__bool__" (S_bool C)) : FnOk P w K mg base CX0 2 f fd ["self", "other"] (spOf K (S_le C)) := by
  refine fn_data (k := 1) F sc_Span_le (fun ds M Φ h => ?_) (fun cdv A outer s H E ds M Φ hr h => ?_)
  · obtain ⟨t, u, rfl, q⟩ := h
    all_goals rfl
  · obtain ⟨t, u, rfl, q⟩ := h
    cases t with
    | none =>
      cases u with
      | none =>
        refine ws_if ?_
        refine wt_bool ?_
        refine ww_or ?_
        refine wt_not ?_
        refine wt_val ?_ (by intro _; rfl)
        refine wv 0 rfl ?_
        first
        | refine tr_own hB (hr.mono (by decide)) (.inl rfl) (use_boolS ⟨_, rfl, ?_⟩)
        | refine tr_own hB (hr.mono (by decide)) (.inl rfl) (use_boolN ⟨_, rfl, ?_⟩)
        refine ⟨fun hb => ?_, fun hb => ?_⟩
        · walk_at "tidy"
          refine ⟨fun hb => ?_, fun hb => ?_⟩
          · walk_at "tidy"
            refine ws_ret ?_
            refine wnotv ?_
            refine wv 0 rfl ?_
            first
            | refine tr_own hB (hr.mono (by decide)) (.inl rfl) (use_boolS ⟨_, rfl, ?_⟩)
            | refine tr_own hB (hr.mono (by decide)) (.inl rfl) (use_boolN ⟨_, rfl, ?_⟩)
            first
            | exact q
            | (rw [leT_yes (by omega)] at q; exact q)
            | (rw [leT_no (by omega)] at q; exact q)
          · walk_at "dead"
        · walk_at "dead"
      | some u =>
        refine ws_if ?_
        refine wt_bool ?_
        refine ww_or ?_
        refine wt_not ?_
        refine wt_val ?_ (by intro _; rfl)
        refine wv 0 rfl ?_
        first
        | refine tr_own hB (hr.mono (by decide)) (.inl rfl) (use_boolS ⟨_, rfl, ?_⟩)
        | refine tr_own hB (hr.mono (by decide)) (.inl rfl) (use_boolN ⟨_, rfl, ?_⟩)
        refine ⟨fun hb => ?_, fun hb => ?_⟩
        · walk_at "tidy"
          refine ⟨fun hb => ?_, fun hb => ?_⟩
          · walk_at "tidy"
            refine ws_ret ?_
            refine wnotv ?_
            refine wv 0 rfl ?_
            first
            | refine tr_own hB (hr.mono (by decide)) (.inl rfl) (use_boolS ⟨_, rfl, ?_⟩)
            | refine tr_own hB (hr.mono (by decide)) (.inl rfl) (use_boolN ⟨_, rfl, ?_⟩)
            first
            | exact q
            | (rw [leT_yes (by omega)] at q; exact q)
            | (rw [leT_no (by omega)] at q; exact q)
          · walk_at "dead"
        · walk_at "dead"
    | some t =>
      cases u with
      | none =>
        refine ws_if ?_
        refine wt_bool ?_
        refine ww_or ?_
        refine wt_not ?_
        refine wt_val ?_ (by intro _; rfl)
        refine wv 0 rfl ?_
        first
        | refine tr_own hB (hr.mono (by decide)) (.inl rfl) (use_boolS ⟨_, rfl, ?_⟩)
        | refine tr_own hB (hr.mono (by decide)) (.inl rfl) (use_boolN ⟨_, rfl, ?_⟩)
        refine ⟨fun hb => ?_, fun hb => ?_⟩
        · walk_at "dead"
        · walk_at "tidy"
          refine ww_or1 ?_
          refine wt_not ?_
          refine wt_val ?_ (by intro _; rfl)
          refine wv 1 rfl ?_
          first
          | refine tr_own hB (hr.mono (by decide)) (.inl rfl) (use_boolS ⟨_, rfl, ?_⟩)
          | refine tr_own hB (hr.mono (by decide)) (.inl rfl) (use_boolN ⟨_, rfl, ?_⟩)
          refine ⟨fun hb => ?_, fun hb => ?_⟩
          · walk_at "tidy"
            refine ws_ret ?_
            refine wnotv ?_
            refine wv 0 rfl ?_
            first
            | refine tr_own hB (hr.mono (by decide)) (.inl rfl) (use_boolS ⟨_, rfl, ?_⟩)
            | refine tr_own hB (hr.mono (by decide)) (.inl rfl) (use_boolN ⟨_, rfl, ?_⟩)
            first
            | exact q
            | (rw [leT_yes (by omega)] at q; exact q)
            | (rw [leT_no (by omega)] at q; exact q)
          · walk_at "dead"
      | some u =>
        refine ws_if ?_
        refine wt_bool ?_
        refine ww_or ?_
        refine wt_not ?_
        refine wt_val ?_ (by intro _; rfl)
        refine wv 0 rfl ?_
        first
        | refine tr_own hB (hr.mono (by decide)) (.inl rfl) (use_boolS ⟨_, rfl, ?_⟩)
        | refine tr_own hB (hr.mono (by decide)) (.inl rfl) (use_boolN ⟨_, rfl, ?_⟩)
        refine ⟨fun hb => ?_, fun hb => ?_⟩
        · walk_at "dead"
        · walk_at "tidy"
          refine ww_or1 ?_
          refine wt_not ?_
          refine wt_val ?_ (by intro _; rfl)
          refine wv 1 rfl ?_
          first
          | refine tr_own hB (hr.mono (by decide)) (.inl rfl) (use_boolS ⟨_, rfl, ?_⟩)
          | refine tr_own hB (hr.mono (by decide)) (.inl rfl) (use_boolN ⟨_, rfl, ?_⟩)
          refine ⟨fun hb => ?_, fun hb => ?_⟩
          · walk_at "dead"
          · walk_at "tidy"
            refine ws_nil ?_
            refine wu_Z (by passes_own) B.zip ?_
            refine wa_cons ?_
            refine we_tup ?_
            refine wa_cons ?_
            refine we_attr ?_ (by rfl)
            refine wv 0 rfl ?_
            refine at_fld (.inl rfl) lk_here hS.cls hS.nb ?_
            refine wa_cons ?_
            refine we_attr ?_ (by rfl)
            refine wv 0 rfl ?_
            refine at_fld (.inl rfl) (lk_there (by decide) lk_here) hS.cls hS.np ?_
            refine wa_cons ?_
            refine we_attr ?_ (by rfl)
            refine wv 0 rfl ?_
            refine at_fld (.inl rfl) (lk_there (by decide) (lk_there (by decide) lk_here)) hS.cls hS.ne ?_
            refine wa_nil ?_
            refine ⟨(by walk_at "size"), ?_⟩
            refine wa_cons ?_
            refine we_tup ?_
            refine wa_cons ?_
            refine we_attr ?_ (by rfl)
            refine wv 1 rfl ?_
            refine at_fld (.inl rfl) lk_here hS.cls hS.nb ?_
            refine wa_cons ?_
            refine we_attr ?_ (by rfl)
            refine wv 1 rfl ?_
            refine at_fld (.inl rfl) (lk_there (by decide) lk_here) hS.cls hS.np ?_
            refine wa_cons ?_
            refine we_attr ?_ (by rfl)
            refine wv 1 rfl ?_
            refine at_fld (.inl rfl) (lk_there (by decide) (lk_there (by decide) lk_here)) hS.cls hS.ne ?_
            refine wa_nil ?_
            refine ⟨(by walk_at "size"), ?_⟩
            refine wa_nil ?_
            refine ⟨_, _, rfl, rfl, ?_⟩
            show GD _ _ _ _ _ _
            refine gd_tup rfl ?_ rfl
            refine gds_cons ?_
            refine gd_name 2 sc_Span_le.nd ?_
            refine gds_cons ?_
            refine gd_name 3 sc_Span_le.nd ?_
            refine gds_nil ?_
            refine ws_if ?_
            refine wt_bool ?_
            refine ww_or ?_
            refine wt_cmp ?_ (nomark _)
            refine we_ix ?_ (fun _ _ => rfl)
            refine wv 2 rfl ?_
            refine we_int ?_
            walk_at "ix"
            refine we_ix ?_ (fun _ _ => rfl)
            refine wv 3 rfl ?_
            refine we_int ?_
            walk_at "ix"
            walk_at "op"
            refine ⟨_, rfl, ?_⟩
            refine ⟨fun hb => ?_, fun hb => ?_⟩
            · first
              | (walk_at "dead")
              | (
                walk_at "tidy"
                refine ⟨fun hb => ?_, fun hb => ?_⟩
                · walk_at "tidy"
                  refine ws_ret ?_
                  refine we_bl ?_
                  first
                  | exact q
                  | (rw [leT_yes (by omega)] at q; exact q)
                  | (rw [leT_no (by omega)] at q; exact q)
                · walk_at "dead")
            · first
              | (walk_at "dead")
              | (
                walk_at "tidy"
                refine ww_or1 ?_
                refine wt_cmp ?_ (nomark _)
                refine we_ix ?_ (fun _ _ => rfl)
                refine wv 2 rfl ?_
                refine we_int ?_
                walk_at "ix"
                refine we_ix ?_ (fun _ _ => rfl)
                refine wv 3 rfl ?_
                refine we_int ?_
                walk_at "ix"
                walk_at "op"
                refine ⟨_, rfl, ?_⟩
                refine ⟨fun hb => ?_, fun hb => ?_⟩
                · first
                  | (walk_at "dead")
                  | (
                    walk_at "tidy"
                    refine ws_ret ?_
                    refine we_bl ?_
                    first
                    | exact q
                    | (rw [leT_yes (by omega)] at q; exact q)
                    | (rw [leT_no (by omega)] at q; exact q))
                · first
                  | (walk_at "dead")
                  | (
                    walk_at "tidy"
                    refine ws_nil ?_
                    refine ws_nil ?_
                    show GD _ _ _ _ _ _
                    refine gd_tup rfl ?_ rfl
                    refine gds_cons ?_
                    refine gd_name 2 sc_Span_le.nd ?_
                    refine gds_cons ?_
                    refine gd_name 3 sc_Span_le.nd ?_
                    refine gds_nil ?_
                    refine ws_if ?_
                    refine wt_bool ?_
                    refine ww_or ?_
                    refine wt_cmp ?_ (nomark _)
                    refine we_ix ?_ (fun _ _ => rfl)
                    refine wv 2 rfl ?_
                    refine we_int ?_
                    walk_at "ix"
                    refine we_ix ?_ (fun _ _ => rfl)
                    refine wv 3 rfl ?_
                    refine we_int ?_
                    walk_at "ix"
                    walk_at "op"
                    refine ⟨_, rfl, ?_⟩
                    refine ⟨fun hb => ?_, fun hb => ?_⟩
                    · first
                      | (walk_at "dead")
                      | (
                        walk_at "tidy"
                        refine ⟨fun hb => ?_, fun hb => ?_⟩
                        · walk_at "tidy"
                          refine ws_ret ?_
                          refine we_bl ?_
                          first
                          | exact q
                          | (rw [leT_yes (by omega)] at q; exact q)
                          | (rw [leT_no (by omega)] at q; exact q)
                        · walk_at "dead")
                    · first
                      | (walk_at "dead")
                      | (
                        walk_at "tidy"
                        refine ww_or1 ?_
                        refine wt_cmp ?_ (nomark _)
                        refine we_ix ?_ (fun _ _ => rfl)
                        refine wv 2 rfl ?_
                        refine we_int ?_
                        walk_at "ix"
                        refine we_ix ?_ (fun _ _ => rfl)
                        refine wv 3 rfl ?_
                        refine we_int ?_
                        walk_at "ix"
                        walk_at "op"
                        refine ⟨_, rfl, ?_⟩
                        refine ⟨fun hb => ?_, fun hb => ?_⟩
                        · first
                          | (walk_at "dead")
                          | (
                            walk_at "tidy"
                            refine ws_ret ?_
                            refine we_bl ?_
                            first
                            | exact q
                            | (rw [leT_yes (by omega)] at q; exact q)
                            | (rw [leT_no (by omega)] at q; exact q))
                        · first
                          | (walk_at "dead")
                          | (
                            walk_at "tidy"
                            refine ws_nil ?_
                            refine ws_nil ?_
                            show GD _ _ _ _ _ _
                            refine gd_tup rfl ?_ rfl
                            refine gds_cons ?_
                            refine gd_name 2 sc_Span_le.nd ?_
                            refine gds_cons ?_
                            refine gd_name 3 sc_Span_le.nd ?_
                            refine gds_nil ?_
                            refine ws_if ?_
                            refine wt_bool ?_
                            refine ww_or ?_
                            refine wt_cmp ?_ (nomark _)
                            refine we_ix ?_ (fun _ _ => rfl)
                            refine wv 2 rfl ?_
                            refine we_int ?_
                            walk_at "ix"
                            refine we_ix ?_ (fun _ _ => rfl)
                            refine wv 3 rfl ?_
                            refine we_int ?_
                            walk_at "ix"
                            walk_at "op"
                            refine ⟨_, rfl, ?_⟩
                            refine ⟨fun hb => ?_, fun hb => ?_⟩
                            · first
                              | (walk_at "dead")
                              | (
                                walk_at "tidy"
                                refine ⟨fun hb => ?_, fun hb => ?_⟩
                                · walk_at "tidy"
                                  refine ws_ret ?_
                                  refine we_bl ?_
                                  first
                                  | exact q
                                  | (rw [leT_yes (by omega)] at q; exact q)
                                  | (rw [leT_no (by omega)] at q; exact q)
                                · walk_at "dead")
                            · first
                              | (walk_at "dead")
                              | (
                                walk_at "tidy"
                                refine ww_or1 ?_
                                refine wt_cmp ?_ (nomark _)
                                refine we_ix ?_ (fun _ _ => rfl)
                                refine wv 2 rfl ?_
                                refine we_int ?_
                                walk_at "ix"
                                refine we_ix ?_ (fun _ _ => rfl)
                                refine wv 3 rfl ?_
                                refine we_int ?_
                                walk_at "ix"
                                walk_at "op"
                                refine ⟨_, rfl, ?_⟩
                                refine ⟨fun hb => ?_, fun hb => ?_⟩
                                · first
                                  | (walk_at "dead")
                                  | (
                                    walk_at "tidy"
                                    refine ws_ret ?_
                                    refine we_bl ?_
                                    first
                                    | exact q
                                    | (rw [leT_yes (by omega)] at q; exact q)
                                    | (rw [leT_no (by omega)] at q; exact q))
                                · first
                                  | (walk_at "dead")
                                  | (
                                    walk_at "tidy"
                                    refine ws_nil ?_
                                    refine ws_nil ?_
                                    show WS _ _ _ _ _
                                    refine ws_ret ?_
                                    refine we_bl ?_
                                    first
                                    | exact q
                                    | (rw [leT_yes (by omega)] at q; exact q)
                                    | (rw [leT_no (by omega)] at q; exact q)))))))
end
end Sl57

set_option Elab.async false
set_option linter.all false
set_option maxRecDepth 100000
set_option maxHeartbeats 1000000

namespace Sl57
open PySem PySem.Spec PyProof.Rows L2 Dt
set_option hygiene false
local macro_rules | `(tactic| walk_at "op") => `(tactic| (first
  | refine od_add ?_ | refine od_sub ?_ | refine od_lt ?_ | refine od_le ?_ | refine od_gt ?_ | refine od_ge ?_ | refine od_eq ?_ | refine od_ne ?_ | refine od_is ?_ | refine od_isn ?_
  | refine od_eqS ?_ | refine od_neS ?_ | refine od_eqB ?_ | refine od_neB ?_))
local macro_rules | `(tactic| walk_at "dead") => `(tactic| (first
  | (cases hb; done)
  | (exact absurd (show false = true from hb) (by decide))
  | (exact absurd (show true = false from hb) (by decide))
  | (exact absurd hb (by decide))
  | (exfalso; simp only [decide_eq_true_eq, decide_eq_false_iff_not, Bool.not_eq_true', Bool.not_eq_false'] at hb; omega)))
local macro_rules | `(tactic| walk_at "tidy") => `(tactic| (try simp only [decide_eq_true_eq, decide_eq_false_iff_not, Bool.not_eq_true', Bool.not_eq_false'] at hb))
local macro_rules | `(tactic| walk_at "truth") => `(tactic| (first | refine tr_bl ?_ | refine tr_lst ?_ | refine tr_tup ?_ | refine tr_non ?_ | refine tr_int ?_))
local macro_rules | `(tactic| walk_at "ix") => `(tactic| (first
  | refine ix_tup (j := 0) rfl rfl ?_ | refine ix_tup (j := 1) rfl rfl ?_ | refine ix_tup (j := 2) rfl rfl ?_
  | refine ix_lst (j := 0) rfl rfl ?_ | refine ix_lst (j := 1) rfl rfl ?_ | refine ix_lst (j := 2) rfl rfl ?_
  | refine ix_own (k := 0) (j := 0) rfl rfl rfl ?_
  | refine ix_own (k := 0) (j := 1) rfl rfl rfl ?_
  | refine ix_own (k := 0) (j := 2) rfl rfl rfl ?_
  | refine ix_own (k := 1) (j := 0) rfl rfl rfl ?_
  | refine ix_own (k := 1) (j := 1) rfl rfl rfl ?_
  | refine ix_own (k := 1) (j := 2) rfl rfl rfl ?_
  | refine ix_own (k := 2) (j := 0) rfl rfl rfl ?_
  | refine ix_own (k := 2) (j := 1) rfl rfl rfl ?_
  | refine ix_own (k := 2) (j := 2) rfl rfl rfl ?_
  | refine ix_own (k := 3) (j := 0) rfl rfl rfl ?_
  | refine ix_own (k := 3) (j := 1) rfl rfl rfl ?_
  | refine ix_own (k := 3) (j := 2) rfl rfl rfl ?_
  | refine ix_own (k := 4) (j := 0) rfl rfl rfl ?_
  | refine ix_own (k := 4) (j := 1) rfl rfl rfl ?_
  | refine ix_own (k := 4) (j := 2) rfl rfl rfl ?_
  | refine ix_own (k := 5) (j := 0) rfl rfl rfl ?_
  | refine ix_own (k := 5) (j := 1) rfl rfl rfl ?_
  | refine ix_own (k := 5) (j := 2) rfl rfl rfl ?_
  | refine ix_own (k := 6) (j := 0) rfl rfl rfl ?_
  | refine ix_own (k := 6) (j := 1) rfl rfl rfl ?_
  | refine ix_own (k := 6) (j := 2) rfl rfl rfl ?_
  | refine ix_own (k := 7) (j := 0) rfl rfl rfl ?_
  | refine ix_own (k := 7) (j := 1) rfl rfl rfl ?_
  | refine ix_own (k := 7) (j := 2) rfl rfl rfl ?_
  | refine ix_own (k := 8) (j := 0) rfl rfl rfl ?_
  | refine ix_own (k := 8) (j := 1) rfl rfl rfl ?_
  | refine ix_own (k := 8) (j := 2) rfl rfl rfl ?_
  | refine ix_own (k := 9) (j := 0) rfl rfl rfl ?_
  | refine ix_own (k := 9) (j := 1) rfl rfl rfl ?_
  | refine ix_own (k := 9) (j := 2) rfl rfl rfl ?_
  | refine ix_own (k := 10) (j := 0) rfl rfl rfl ?_
  | refine ix_own (k := 10) (j := 1) rfl rfl rfl ?_
  | refine ix_own (k := 10) (j := 2) rfl rfl rfl ?_
  | refine ix_own (k := 11) (j := 0) rfl rfl rfl ?_
  | refine ix_own (k := 11) (j := 1) rfl rfl rfl ?_
  | refine ix_own (k := 11) (j := 2) rfl rfl rfl ?_
  | refine ix_own (k := 12) (j := 0) rfl rfl rfl ?_
  | refine ix_own (k := 12) (j := 1) rfl rfl rfl ?_
  | refine ix_own (k := 12) (j := 2) rfl rfl rfl ?_
  | refine ix_own (k := 13) (j := 0) rfl rfl rfl ?_
  | refine ix_own (k := 13) (j := 1) rfl rfl rfl ?_
  | refine ix_own (k := 13) (j := 2) rfl rfl rfl ?_))
local macro_rules | `(tactic| walk_at "seti") => `(tactic| (first
  | refine ⟨0, 0, _, _, _, rfl, rfl, rfl, rfl, of_decide_eq_true rfl, ?_⟩
  | refine ⟨0, 1, _, _, _, rfl, rfl, rfl, rfl, of_decide_eq_true rfl, ?_⟩
  | refine ⟨0, 2, _, _, _, rfl, rfl, rfl, rfl, of_decide_eq_true rfl, ?_⟩
  | refine ⟨1, 0, _, _, _, rfl, rfl, rfl, rfl, of_decide_eq_true rfl, ?_⟩
  | refine ⟨1, 1, _, _, _, rfl, rfl, rfl, rfl, of_decide_eq_true rfl, ?_⟩
  | refine ⟨1, 2, _, _, _, rfl, rfl, rfl, rfl, of_decide_eq_true rfl, ?_⟩
  | refine ⟨2, 0, _, _, _, rfl, rfl, rfl, rfl, of_decide_eq_true rfl, ?_⟩
  | refine ⟨2, 1, _, _, _, rfl, rfl, rfl, rfl, of_decide_eq_true rfl, ?_⟩
  | refine ⟨2, 2, _, _, _, rfl, rfl, rfl, rfl, of_decide_eq_true rfl, ?_⟩
  | refine ⟨3, 0, _, _, _, rfl, rfl, rfl, rfl, of_decide_eq_true rfl, ?_⟩
  | refine ⟨3, 1, _, _, _, rfl, rfl, rfl, rfl, of_decide_eq_true rfl, ?_⟩
  | refine ⟨3, 2, _, _, _, rfl, rfl, rfl, rfl, of_decide_eq_true rfl, ?_⟩
  | refine ⟨4, 0, _, _, _, rfl, rfl, rfl, rfl, of_decide_eq_true rfl, ?_⟩
  | refine ⟨4, 1, _, _, _, rfl, rfl, rfl, rfl, of_decide_eq_true rfl, ?_⟩
  | refine ⟨4, 2, _, _, _, rfl, rfl, rfl, rfl, of_decide_eq_true rfl, ?_⟩
  | refine ⟨5, 0, _, _, _, rfl, rfl, rfl, rfl, of_decide_eq_true rfl, ?_⟩
  | refine ⟨5, 1, _, _, _, rfl, rfl, rfl, rfl, of_decide_eq_true rfl, ?_⟩
  | refine ⟨5, 2, _, _, _, rfl, rfl, rfl, rfl, of_decide_eq_true rfl, ?_⟩
  | refine ⟨6, 0, _, _, _, rfl, rfl, rfl, rfl, of_decide_eq_true rfl, ?_⟩
  | refine ⟨6, 1, _, _, _, rfl, rfl, rfl, rfl, of_decide_eq_true rfl, ?_⟩
  | refine ⟨6, 2, _, _, _, rfl, rfl, rfl, rfl, of_decide_eq_true rfl, ?_⟩
  | refine ⟨7, 0, _, _, _, rfl, rfl, rfl, rfl, of_decide_eq_true rfl, ?_⟩
  | refine ⟨7, 1, _, _, _, rfl, rfl, rfl, rfl, of_decide_eq_true rfl, ?_⟩
  | refine ⟨7, 2, _, _, _, rfl, rfl, rfl, rfl, of_decide_eq_true rfl, ?_⟩
  | refine ⟨8, 0, _, _, _, rfl, rfl, rfl, rfl, of_decide_eq_true rfl, ?_⟩
  | refine ⟨8, 1, _, _, _, rfl, rfl, rfl, rfl, of_decide_eq_true rfl, ?_⟩
  | refine ⟨8, 2, _, _, _, rfl, rfl, rfl, rfl, of_decide_eq_true rfl, ?_⟩
  | refine ⟨9, 0, _, _, _, rfl, rfl, rfl, rfl, of_decide_eq_true rfl, ?_⟩
  | refine ⟨9, 1, _, _, _, rfl, rfl, rfl, rfl, of_decide_eq_true rfl, ?_⟩
  | refine ⟨9, 2, _, _, _, rfl, rfl, rfl, rfl, of_decide_eq_true rfl, ?_⟩
  | refine ⟨10, 0, _, _, _, rfl, rfl, rfl, rfl, of_decide_eq_true rfl, ?_⟩
  | refine ⟨10, 1, _, _, _, rfl, rfl, rfl, rfl, of_decide_eq_true rfl, ?_⟩
  | refine ⟨10, 2, _, _, _, rfl, rfl, rfl, rfl, of_decide_eq_true rfl, ?_⟩
  | refine ⟨11, 0, _, _, _, rfl, rfl, rfl, rfl, of_decide_eq_true rfl, ?_⟩
  | refine ⟨11, 1, _, _, _, rfl, rfl, rfl, rfl, of_decide_eq_true rfl, ?_⟩
  | refine ⟨11, 2, _, _, _, rfl, rfl, rfl, rfl, of_decide_eq_true rfl, ?_⟩
  | refine ⟨12, 0, _, _, _, rfl, rfl, rfl, rfl, of_decide_eq_true rfl, ?_⟩
  | refine ⟨12, 1, _, _, _, rfl, rfl, rfl, rfl, of_decide_eq_true rfl, ?_⟩
  | refine ⟨12, 2, _, _, _, rfl, rfl, rfl, rfl, of_decide_eq_true rfl, ?_⟩
  | refine ⟨13, 0, _, _, _, rfl, rfl, rfl, rfl, of_decide_eq_true rfl, ?_⟩
  | refine ⟨13, 1, _, _, _, rfl, rfl, rfl, rfl, of_decide_eq_true rfl, ?_⟩
  | refine ⟨13, 2, _, _, _, rfl, rfl, rfl, rfl, of_decide_eq_true rfl, ?_⟩))
local macro_rules | `(tactic| walk_at "lst") => `(tactic| (first
  | refine cd_list (.inr (.inr ⟨0, _, rfl, rfl⟩)) ?_
  | refine cd_list (.inr (.inr ⟨1, _, rfl, rfl⟩)) ?_
  | refine cd_list (.inr (.inr ⟨2, _, rfl, rfl⟩)) ?_
  | refine cd_list (.inr (.inr ⟨3, _, rfl, rfl⟩)) ?_
  | refine cd_list (.inr (.inr ⟨4, _, rfl, rfl⟩)) ?_
  | refine cd_list (.inr (.inr ⟨5, _, rfl, rfl⟩)) ?_
  | refine cd_list (.inr (.inr ⟨6, _, rfl, rfl⟩)) ?_
  | refine cd_list (.inr (.inr ⟨7, _, rfl, rfl⟩)) ?_
  | refine cd_list (.inr (.inr ⟨8, _, rfl, rfl⟩)) ?_
  | refine cd_list (.inr (.inr ⟨9, _, rfl, rfl⟩)) ?_
  | refine cd_list (.inr (.inr ⟨10, _, rfl, rfl⟩)) ?_
  | refine cd_list (.inr (.inr ⟨11, _, rfl, rfl⟩)) ?_
  | refine cd_list (.inr (.inr ⟨12, _, rfl, rfl⟩)) ?_
  | refine cd_list (.inr (.inr ⟨13, _, rfl, rfl⟩)) ?_))
local macro_rules | `(tactic| walk_at "isi") => `(tactic| (first | refine cd_isi (k := true) rfl (by decide +kernel) ?_ | refine cd_isi (k := false) rfl (by decide +kernel) ?_))
local macro_rules | `(tactic| walk_at "size") => `(tactic| (first
  | exact (show 0 ≤ sizeLine by decide) | exact (show 1 ≤ sizeLine by decide) | exact (show 2 ≤ sizeLine by decide) | exact (show 3 ≤ sizeLine by decide) | exact (show 4 ≤ sizeLine by decide) | exact (show 5 ≤ sizeLine by decide) | exact (show 6 ≤ sizeLine by decide)))

section
variable {P : Program} {w : World} {K : PySem.W.Frag} {mg : Str → Option Value} {base : Heap}
abbrev s_Span_less : Stmt := inClass (top 12) 8
theorem sc_Span_less : FnScope ["self", "other", "found", "left", "at", "bounds", "below", "above", "span"] ["self", "other"] (defScope s_Span_less) := ⟨rfl, rfl, rfl, by decide +kernel, rfl, by decide +kernel, by decide +kernel⟩
theorem ok_Span_less {f : Addr} {fd : FuncData} (F : FunD K "less" "Span.less" (defArgs s_Span_less) (defBody s_Span_less) (defScope s_Span_less) [] [] f fd) (B : Bf mg) {C : Addr} (hS : SpC K C) (hB : HasMe P w K mg base 1 C "__bool__" (S_bool C)) (hG : HasFn P w K mg base 1 "greater" S_greater) (hL : HasFn P w K mg base 1 "lesser" S_lesser) (hM : HasMk P w K mg base 4 C "Span" (S_init C)) : FnOk P w K mg base CX0 6 f fd ["self", "other"] (spOf K (S_less C)) := by
  refine fn_data (k := 5) F sc_Span_less (fun ds M Φ h => ?_) (fun cdv A outer s H E ds M Φ hr h => ?_)
  · obtain ⟨t, u, rfl, q⟩ := h
    all_goals rfl
  · obtain ⟨t, u, rfl, q⟩ := h
    cases t with
    | none =>
      cases u with
      | none =>
        refine ws_if ?_
        refine wt_bool ?_
        refine ww_or ?_
        refine wt_not ?_
        refine wt_val ?_ (by intro _; rfl)
        refine wv 0 rfl ?_
        first
        | refine tr_own hB (hr.mono (by decide)) (.inl rfl) (use_boolS ⟨_, rfl, ?_⟩)
        | refine tr_own hB (hr.mono (by decide)) (.inl rfl) (use_boolN ⟨_, rfl, ?_⟩)
        refine ⟨fun hb => ?_, fun hb => ?_⟩
        · walk_at "tidy"
          refine ⟨fun hb => ?_, fun hb => ?_⟩
          · walk_at "tidy"
            refine ws_ret ?_
            refine we_if ?_
            refine wt_val ?_ (by intro _; rfl)
            refine wv 0 rfl ?_
            first
            | refine tr_own hB (hr.mono (by decide)) (.inl rfl) (use_boolS ⟨_, rfl, ?_⟩)
            | refine tr_own hB (hr.mono (by decide)) (.inl rfl) (use_boolN ⟨_, rfl, ?_⟩)
            refine ⟨fun hb => ?_, fun hb => ?_⟩
            · walk_at "dead"
            · walk_at "tidy"
              refine we_tup ?_
              refine wa_nil ?_
              refine ⟨(by walk_at "size"), ?_⟩
              first
              | exact q
              | (rw [less_list] ; exact q)
          · walk_at "dead"
        · walk_at "dead"
      | some u =>
        refine ws_if ?_
        refine wt_bool ?_
        refine ww_or ?_
        refine wt_not ?_
        refine wt_val ?_ (by intro _; rfl)
        refine wv 0 rfl ?_
        first
        | refine tr_own hB (hr.mono (by decide)) (.inl rfl) (use_boolS ⟨_, rfl, ?_⟩)
        | refine tr_own hB (hr.mono (by decide)) (.inl rfl) (use_boolN ⟨_, rfl, ?_⟩)
        refine ⟨fun hb => ?_, fun hb => ?_⟩
        · walk_at "tidy"
          refine ⟨fun hb => ?_, fun hb => ?_⟩
          · walk_at "tidy"
            refine ws_ret ?_
            refine we_if ?_
            refine wt_val ?_ (by intro _; rfl)
            refine wv 0 rfl ?_
            first
            | refine tr_own hB (hr.mono (by decide)) (.inl rfl) (use_boolS ⟨_, rfl, ?_⟩)
            | refine tr_own hB (hr.mono (by decide)) (.inl rfl) (use_boolN ⟨_, rfl, ?_⟩)
            refine ⟨fun hb => ?_, fun hb => ?_⟩
            · walk_at "dead"
            · walk_at "tidy"
              refine we_tup ?_
              refine wa_nil ?_
              refine ⟨(by walk_at "size"), ?_⟩
              first
              | exact q
              | (rw [less_list] ; exact q)
          · walk_at "dead"
        · walk_at "dead"
    | some t =>
      cases u with
      | none =>
        refine ws_if ?_
        refine wt_bool ?_
        refine ww_or ?_
        refine wt_not ?_
        refine wt_val ?_ (by intro _; rfl)
        refine wv 0 rfl ?_
        first
        | refine tr_own hB (hr.mono (by decide)) (.inl rfl) (use_boolS ⟨_, rfl, ?_⟩)
        | refine tr_own hB (hr.mono (by decide)) (.inl rfl) (use_boolN ⟨_, rfl, ?_⟩)
        refine ⟨fun hb => ?_, fun hb => ?_⟩
        · walk_at "dead"
        · walk_at "tidy"
          refine ww_or1 ?_
          refine wt_not ?_
          refine wt_val ?_ (by intro _; rfl)
          refine wv 1 rfl ?_
          first
          | refine tr_own hB (hr.mono (by decide)) (.inl rfl) (use_boolS ⟨_, rfl, ?_⟩)
          | refine tr_own hB (hr.mono (by decide)) (.inl rfl) (use_boolN ⟨_, rfl, ?_⟩)
          refine ⟨fun hb => ?_, fun hb => ?_⟩
          · walk_at "tidy"
            refine ws_ret ?_
            refine we_if ?_
            refine wt_val ?_ (by intro _; rfl)
            refine wv 0 rfl ?_
            first
            | refine tr_own hB (hr.mono (by decide)) (.inl rfl) (use_boolS ⟨_, rfl, ?_⟩)
            | refine tr_own hB (hr.mono (by decide)) (.inl rfl) (use_boolN ⟨_, rfl, ?_⟩)
            refine ⟨fun hb => ?_, fun hb => ?_⟩
            · walk_at "tidy"
              refine we_tup ?_
              refine wa_cons ?_
              refine wv 0 rfl ?_
              refine wa_nil ?_
              refine ⟨(by walk_at "size"), ?_⟩
              first
              | exact q
              | (rw [less_list] ; exact q)
            · walk_at "dead"
          · walk_at "dead"
      | some u =>
        refine ws_if ?_
        refine wt_bool ?_
        refine ww_or ?_
        refine wt_not ?_
        refine wt_val ?_ (by intro _; rfl)
        refine wv 0 rfl ?_
        first
        | refine tr_own hB (hr.mono (by decide)) (.inl rfl) (use_boolS ⟨_, rfl, ?_⟩)
        | refine tr_own hB (hr.mono (by decide)) (.inl rfl) (use_boolN ⟨_, rfl, ?_⟩)
        refine ⟨fun hb => ?_, fun hb => ?_⟩
        · walk_at "dead"
        · walk_at "tidy"
          refine ww_or1 ?_
          refine wt_not ?_
          refine wt_val ?_ (by intro _; rfl)
          refine wv 1 rfl ?_
          first
          | refine tr_own hB (hr.mono (by decide)) (.inl rfl) (use_boolS ⟨_, rfl, ?_⟩)
          | refine tr_own hB (hr.mono (by decide)) (.inl rfl) (use_boolN ⟨_, rfl, ?_⟩)
          refine ⟨fun hb => ?_, fun hb => ?_⟩
          · walk_at "dead"
          · walk_at "tidy"
            refine ws_nil ?_
            refine ws_par 2 3 sc_Span_less.nd ?_
            refine wa_cons ?_
            refine we_lstO ?_
            refine wa_nil ?_
            refine ⟨(by walk_at "size"), fun l_1 => ?_⟩
            refine wa_cons ?_
            refine we_lstO ?_
            refine wa_cons ?_
            refine we_attr ?_ (by rfl)
            refine wv 0 rfl ?_
            refine at_fld (.inl rfl) lk_here hS.cls hS.nb ?_
            refine wa_cons ?_
            refine we_attr ?_ (by rfl)
            refine wv 0 rfl ?_
            refine at_fld (.inl rfl) (lk_there (by decide) lk_here) hS.cls hS.np ?_
            refine wa_cons ?_
            refine we_attr ?_ (by rfl)
            refine wv 0 rfl ?_
            refine at_fld (.inl rfl) (lk_there (by decide) (lk_there (by decide) lk_here)) hS.cls hS.ne ?_
            refine wa_nil ?_
            refine ⟨(by walk_at "size"), fun l_2 => ?_⟩
            refine wa_nil ?_
            refine ⟨_, _, rfl, ?_⟩
            refine wu_E (by passes_own) B.enum ?_
            refine wa_cons ?_
            refine we_tup ?_
            refine wa_cons ?_
            refine we_attr ?_ (by rfl)
            refine wv 1 rfl ?_
            refine at_fld (.inl rfl) lk_here hS.cls hS.nb ?_
            refine wa_cons ?_
            refine we_attr ?_ (by rfl)
            refine wv 1 rfl ?_
            refine at_fld (.inl rfl) (lk_there (by decide) lk_here) hS.cls hS.np ?_
            refine wa_cons ?_
            refine we_attr ?_ (by rfl)
            refine wv 1 rfl ?_
            refine at_fld (.inl rfl) (lk_there (by decide) (lk_there (by decide) lk_here)) hS.cls hS.ne ?_
            refine wa_nil ?_
            refine ⟨(by walk_at "size"), ?_⟩
            refine wa_nil ?_
            refine ⟨_, rfl, ?_⟩
            show GD _ _ _ _ _ _
            refine gd_tup rfl ?_ rfl
            refine gds_cons ?_
            refine gd_name 4 sc_Span_less.nd ?_
            refine gds_cons ?_
            refine gd_name 5 sc_Span_less.nd ?_
            refine gds_nil ?_
            refine ws_par 6 7 sc_Span_less.nd ?_
            refine wa_cons ?_
            refine wcT B.list boot_list ?_
            refine wa_cons ?_
            refine wv 3 rfl ?_
            refine wa_nil ?_
            walk_at "lst"
            intro lB0
            refine wa_cons ?_
            refine wcT B.list boot_list ?_
            refine wa_cons ?_
            refine wv 3 rfl ?_
            refine wa_nil ?_
            walk_at "lst"
            intro lA0
            refine wa_nil ?_
            refine ⟨_, _, rfl, ?_⟩
            refine ws_weak (Γ' := [some (spanD C (some t)), some (spanD C (some u)), some (.adr l_1), some (.adr l_2), some (.int ((0 : Nat) : Int)), some (tp u.b0 u.b1), some (.adr lB0), some (.adr lA0), none]) (M' := (lA0, .lst [tp t.b0 t.b1, tp t.p0 t.p1, tp t.e0 t.e1]) :: (lB0, .lst [tp t.b0 t.b1, tp t.p0 t.p1, tp t.e0 t.e1]) :: (l_2, .lst [tp t.b0 t.b1, tp t.p0 t.p1, tp t.e0 t.e1]) :: (l_1, .lst []) :: M) ?_ rfl (fun _ _ h => h) (.refl _)
            refine ws_cons (w1_setI ?_ (by exact pg_sub pe_wp pe_wp set_list) rfl rfl rfl)
            refine we_tup ?_
            refine wa_cons ?_
            refine we_ix ?_ (fun _ _ => rfl)
            refine we_ix ?_ (fun _ _ => rfl)
            refine wv 3 rfl ?_
            refine wv 4 rfl ?_
            walk_at "ix"
            refine we_int ?_
            walk_at "ix"
            refine wa_cons ?_
            refine wcf hL (hr.mono (by decide)) ?_
            refine wa_cons ?_
            refine we_ix ?_ (fun _ _ => rfl)
            refine we_ix ?_ (fun _ _ => rfl)
            refine wv 3 rfl ?_
            refine wv 4 rfl ?_
            walk_at "ix"
            refine we_int ?_
            walk_at "ix"
            refine wa_cons ?_
            refine we_bin ?_
            refine we_ix ?_ (fun _ _ => rfl)
            refine wv 5 rfl ?_
            refine we_int ?_
            walk_at "ix"
            refine we_int ?_
            walk_at "op"
            refine wa_nil ?_
            refine use_lesser ?_
            refine wa_nil ?_
            refine ⟨(by walk_at "size"), ?_⟩
            refine wv 6 rfl ?_
            refine wv 4 rfl ?_
            walk_at "seti"
            refine ws_weak (Γ' := [some (spanD C (some t)), some (spanD C (some u)), some (.adr l_1), some (.adr l_2), some (.int ((0 : Nat) : Int)), some (tp u.b0 u.b1), some (.adr lB0), some (.adr lA0), none]) (M' := (lA0, .lst [tp t.b0 t.b1, tp t.p0 t.p1, tp t.e0 t.e1]) :: (lB0, .lst [tp t.b0 (min t.b1 (u.b0 - 1)), tp t.p0 t.p1, tp t.e0 t.e1]) :: (l_2, .lst [tp t.b0 t.b1, tp t.p0 t.p1, tp t.e0 t.e1]) :: (l_1, .lst []) :: M) ?_ rfl (fun _ _ h => h) (.refl _)
            refine ws_cons (w1_setI ?_ (by exact pg_sub pe_wp pe_wp set_list) rfl rfl rfl)
            refine we_tup ?_
            refine wa_cons ?_
            refine wcf hG (hr.mono (by decide)) ?_
            refine wa_cons ?_
            refine we_ix ?_ (fun _ _ => rfl)
            refine we_ix ?_ (fun _ _ => rfl)
            refine wv 3 rfl ?_
            refine wv 4 rfl ?_
            walk_at "ix"
            refine we_int ?_
            walk_at "ix"
            refine wa_cons ?_
            refine we_ix ?_ (fun _ _ => rfl)
            refine wv 5 rfl ?_
            refine we_int ?_
            walk_at "ix"
            refine wa_nil ?_
            refine use_greater ?_
            refine wa_cons ?_
            refine we_ix ?_ (fun _ _ => rfl)
            refine we_ix ?_ (fun _ _ => rfl)
            refine wv 3 rfl ?_
            refine wv 4 rfl ?_
            walk_at "ix"
            refine we_int ?_
            walk_at "ix"
            refine wa_nil ?_
            refine ⟨(by walk_at "size"), ?_⟩
            refine wv 3 rfl ?_
            refine wv 4 rfl ?_
            walk_at "seti"
            refine ws_weak (Γ' := [some (spanD C (some t)), some (spanD C (some u)), some (.adr l_1), some (.adr l_2), some (.int ((0 : Nat) : Int)), some (tp u.b0 u.b1), some (.adr lB0), some (.adr lA0), none]) (M' := (lA0, .lst [tp t.b0 t.b1, tp t.p0 t.p1, tp t.e0 t.e1]) :: (lB0, .lst [tp t.b0 (min t.b1 (u.b0 - 1)), tp t.p0 t.p1, tp t.e0 t.e1]) :: (l_2, .lst [tp (max t.b0 u.b0) t.b1, tp t.p0 t.p1, tp t.e0 t.e1]) :: (l_1, .lst []) :: M) ?_ rfl (fun _ _ h => h) (.refl _)
            refine ws_cons (w1_setI ?_ (by exact pg_sub pe_wp pe_wp set_list) rfl rfl rfl)
            refine we_tup ?_
            refine wa_cons ?_
            refine wcf hG (hr.mono (by decide)) ?_
            refine wa_cons ?_
            refine we_ix ?_ (fun _ _ => rfl)
            refine we_ix ?_ (fun _ _ => rfl)
            refine wv 3 rfl ?_
            refine wv 4 rfl ?_
            walk_at "ix"
            refine we_int ?_
            walk_at "ix"
            refine wa_cons ?_
            refine we_bin ?_
            refine we_ix ?_ (fun _ _ => rfl)
            refine wv 5 rfl ?_
            refine we_int ?_
            walk_at "ix"
            refine we_int ?_
            walk_at "op"
            refine wa_nil ?_
            refine use_greater ?_
            refine wa_cons ?_
            refine we_ix ?_ (fun _ _ => rfl)
            refine we_ix ?_ (fun _ _ => rfl)
            refine wv 3 rfl ?_
            refine wv 4 rfl ?_
            walk_at "ix"
            refine we_int ?_
            walk_at "ix"
            refine wa_nil ?_
            refine ⟨(by walk_at "size"), ?_⟩
            refine wv 7 rfl ?_
            refine wv 4 rfl ?_
            walk_at "seti"
            refine ws_weak (Γ' := [some (spanD C (some t)), some (spanD C (some u)), some (.adr l_1), some (.adr l_2), some (.int ((0 : Nat) : Int)), some (tp u.b0 u.b1), some (.adr lB0), some (.adr lA0), none]) (M' := (lA0, .lst [tp (max (max t.b0 u.b0) (u.b1 + 1)) t.b1, tp t.p0 t.p1, tp t.e0 t.e1]) :: (lB0, .lst [tp t.b0 (min t.b1 (u.b0 - 1)), tp t.p0 t.p1, tp t.e0 t.e1]) :: (l_2, .lst [tp (max t.b0 u.b0) t.b1, tp t.p0 t.p1, tp t.e0 t.e1]) :: (l_1, .lst []) :: M) ?_ rfl (fun _ _ h => h) (.refl _)
            refine ws_cons (w1_setI ?_ (by exact pg_sub pe_wp pe_wp set_list) rfl rfl rfl)
            refine we_tup ?_
            refine wa_cons ?_
            refine we_ix ?_ (fun _ _ => rfl)
            refine we_ix ?_ (fun _ _ => rfl)
            refine wv 3 rfl ?_
            refine wv 4 rfl ?_
            walk_at "ix"
            refine we_int ?_
            walk_at "ix"
            refine wa_cons ?_
            refine wcf hL (hr.mono (by decide)) ?_
            refine wa_cons ?_
            refine we_ix ?_ (fun _ _ => rfl)
            refine we_ix ?_ (fun _ _ => rfl)
            refine wv 3 rfl ?_
            refine wv 4 rfl ?_
            walk_at "ix"
            refine we_int ?_
            walk_at "ix"
            refine wa_cons ?_
            refine we_ix ?_ (fun _ _ => rfl)
            refine wv 5 rfl ?_
            refine we_int ?_
            walk_at "ix"
            refine wa_nil ?_
            refine use_lesser ?_
            refine wa_nil ?_
            refine ⟨(by walk_at "size"), ?_⟩
            refine wv 3 rfl ?_
            refine wv 4 rfl ?_
            walk_at "seti"
            refine ws_weak (Γ' := [some (spanD C (some t)), some (spanD C (some u)), some (.adr l_1), some (.adr l_2), some (.int ((0 : Nat) : Int)), some (tp u.b0 u.b1), some (.adr lB0), some (.adr lA0), none]) (M' := (lA0, .lst [tp (max (max t.b0 u.b0) (u.b1 + 1)) t.b1, tp t.p0 t.p1, tp t.e0 t.e1]) :: (lB0, .lst [tp t.b0 (min t.b1 (u.b0 - 1)), tp t.p0 t.p1, tp t.e0 t.e1]) :: (l_2, .lst [tp (max t.b0 u.b0) (min t.b1 u.b1), tp t.p0 t.p1, tp t.e0 t.e1]) :: (l_1, .lst []) :: M) ?_ rfl (fun _ _ h => h) (.refl _)
            refine ws_expr ?_
            refine we_extend ?_
            refine wv 2 rfl ?_
            refine ⟨_, 3, _, rfl, rfl, ?_⟩
            refine we_lstO ?_
            refine wa_cons ?_
            refine wmkS hM (hr.mono (by decide)) ?_
            refine wa_cons ?_
            refine we_ix ?_ (fun _ _ => rfl)
            refine wv 6 rfl ?_
            refine we_int ?_
            walk_at "ix"
            refine wa_cons ?_
            refine we_ix ?_ (fun _ _ => rfl)
            refine wv 6 rfl ?_
            refine we_int ?_
            walk_at "ix"
            refine wa_cons ?_
            refine we_ix ?_ (fun _ _ => rfl)
            refine wv 6 rfl ?_
            refine we_int ?_
            walk_at "ix"
            refine wa_nil ?_
            refine ⟨_, _, _, _, _, _, rfl, ?_⟩
            refine wa_cons ?_
            refine wmkS hM (hr.mono (by decide)) ?_
            refine wa_cons ?_
            refine we_ix ?_ (fun _ _ => rfl)
            refine wv 7 rfl ?_
            refine we_int ?_
            walk_at "ix"
            refine wa_cons ?_
            refine we_ix ?_ (fun _ _ => rfl)
            refine wv 7 rfl ?_
            refine we_int ?_
            walk_at "ix"
            refine wa_cons ?_
            refine we_ix ?_ (fun _ _ => rfl)
            refine wv 7 rfl ?_
            refine we_int ?_
            walk_at "ix"
            refine wa_nil ?_
            refine ⟨_, _, _, _, _, _, rfl, ?_⟩
            refine wa_nil ?_
            refine ⟨(by walk_at "size"), fun l_3 => ?_⟩
            refine ⟨4, 0, _, _, _, rfl, rfl, rfl, of_decide_eq_true rfl, ?_⟩
            refine ws_weak (Γ' := [some (spanD C (some t)), some (spanD C (some u)), some (.adr l_1), some (.adr l_2), some (.int ((0 : Nat) : Int)), some (tp u.b0 u.b1), some (.adr lB0), some (.adr lA0), none]) (M' := (l_2, .lst [tp (max t.b0 u.b0) (min t.b1 u.b1), tp t.p0 t.p1, tp t.e0 t.e1]) :: (l_1, .lst [spanD C (tight t.b0 (min t.b1 (u.b0 - 1)) t.p0 t.p1 t.e0 t.e1), spanD C (tight (max (max t.b0 u.b0) (u.b1 + 1)) t.b1 t.p0 t.p1 t.e0 t.e1)]) :: M) ?_ rfl (fun _ _ h => h) (.cons _ (.cons _ (.cons _ (.refl _))))
            refine ws_nil ?_
            show GD _ _ _ _ _ _
            refine gd_tup rfl ?_ rfl
            refine gds_cons ?_
            refine gd_name 4 sc_Span_less.nd ?_
            refine gds_cons ?_
            refine gd_name 5 sc_Span_less.nd ?_
            refine gds_nil ?_
            refine ws_par 6 7 sc_Span_less.nd ?_
            refine wa_cons ?_
            refine wcT B.list boot_list ?_
            refine wa_cons ?_
            refine wv 3 rfl ?_
            refine wa_nil ?_
            walk_at "lst"
            intro lB1
            refine wa_cons ?_
            refine wcT B.list boot_list ?_
            refine wa_cons ?_
            refine wv 3 rfl ?_
            refine wa_nil ?_
            walk_at "lst"
            intro lA1
            refine wa_nil ?_
            refine ⟨_, _, rfl, ?_⟩
            refine ws_weak (Γ' := [some (spanD C (some t)), some (spanD C (some u)), some (.adr l_1), some (.adr l_2), some (.int ((1 : Nat) : Int)), some (tp u.p0 u.p1), some (.adr lB1), some (.adr lA1), none]) (M' := (lA1, .lst [tp (max t.b0 u.b0) (min t.b1 u.b1), tp t.p0 t.p1, tp t.e0 t.e1]) :: (lB1, .lst [tp (max t.b0 u.b0) (min t.b1 u.b1), tp t.p0 t.p1, tp t.e0 t.e1]) :: (l_2, .lst [tp (max t.b0 u.b0) (min t.b1 u.b1), tp t.p0 t.p1, tp t.e0 t.e1]) :: (l_1, .lst [spanD C (tight t.b0 (min t.b1 (u.b0 - 1)) t.p0 t.p1 t.e0 t.e1), spanD C (tight (max (max t.b0 u.b0) (u.b1 + 1)) t.b1 t.p0 t.p1 t.e0 t.e1)]) :: M) ?_ rfl (fun _ _ h => h) (.refl _)
            refine ws_cons (w1_setI ?_ (by exact pg_sub pe_wp pe_wp set_list) rfl rfl rfl)
            refine we_tup ?_
            refine wa_cons ?_
            refine we_ix ?_ (fun _ _ => rfl)
            refine we_ix ?_ (fun _ _ => rfl)
            refine wv 3 rfl ?_
            refine wv 4 rfl ?_
            walk_at "ix"
            refine we_int ?_
            walk_at "ix"
            refine wa_cons ?_
            refine wcf hL (hr.mono (by decide)) ?_
            refine wa_cons ?_
            refine we_ix ?_ (fun _ _ => rfl)
            refine we_ix ?_ (fun _ _ => rfl)
            refine wv 3 rfl ?_
            refine wv 4 rfl ?_
            walk_at "ix"
            refine we_int ?_
            walk_at "ix"
            refine wa_cons ?_
            refine we_bin ?_
            refine we_ix ?_ (fun _ _ => rfl)
            refine wv 5 rfl ?_
            refine we_int ?_
            walk_at "ix"
            refine we_int ?_
            walk_at "op"
            refine wa_nil ?_
            refine use_lesser ?_
            refine wa_nil ?_
            refine ⟨(by walk_at "size"), ?_⟩
            refine wv 6 rfl ?_
            refine wv 4 rfl ?_
            walk_at "seti"
            refine ws_weak (Γ' := [some (spanD C (some t)), some (spanD C (some u)), some (.adr l_1), some (.adr l_2), some (.int ((1 : Nat) : Int)), some (tp u.p0 u.p1), some (.adr lB1), some (.adr lA1), none]) (M' := (lA1, .lst [tp (max t.b0 u.b0) (min t.b1 u.b1), tp t.p0 t.p1, tp t.e0 t.e1]) :: (lB1, .lst [tp (max t.b0 u.b0) (min t.b1 u.b1), tp t.p0 (min t.p1 (u.p0 - 1)), tp t.e0 t.e1]) :: (l_2, .lst [tp (max t.b0 u.b0) (min t.b1 u.b1), tp t.p0 t.p1, tp t.e0 t.e1]) :: (l_1, .lst [spanD C (tight t.b0 (min t.b1 (u.b0 - 1)) t.p0 t.p1 t.e0 t.e1), spanD C (tight (max (max t.b0 u.b0) (u.b1 + 1)) t.b1 t.p0 t.p1 t.e0 t.e1)]) :: M) ?_ rfl (fun _ _ h => h) (.refl _)
            refine ws_cons (w1_setI ?_ (by exact pg_sub pe_wp pe_wp set_list) rfl rfl rfl)
            refine we_tup ?_
            refine wa_cons ?_
            refine wcf hG (hr.mono (by decide)) ?_
            refine wa_cons ?_
            refine we_ix ?_ (fun _ _ => rfl)
            refine we_ix ?_ (fun _ _ => rfl)
            refine wv 3 rfl ?_
            refine wv 4 rfl ?_
            walk_at "ix"
            refine we_int ?_
            walk_at "ix"
            refine wa_cons ?_
            refine we_ix ?_ (fun _ _ => rfl)
            refine wv 5 rfl ?_
            refine we_int ?_
            walk_at "ix"
            refine wa_nil ?_
            refine use_greater ?_
            refine wa_cons ?_
            refine we_ix ?_ (fun _ _ => rfl)
            refine we_ix ?_ (fun _ _ => rfl)
            refine wv 3 rfl ?_
            refine wv 4 rfl ?_
            walk_at "ix"
            refine we_int ?_
            walk_at "ix"
            refine wa_nil ?_
            refine ⟨(by walk_at "size"), ?_⟩
            refine wv 3 rfl ?_
            refine wv 4 rfl ?_
            walk_at "seti"
            refine ws_weak (Γ' := [some (spanD C (some t)), some (spanD C (some u)), some (.adr l_1), some (.adr l_2), some (.int ((1 : Nat) : Int)), some (tp u.p0 u.p1), some (.adr lB1), some (.adr lA1), none]) (M' := (lA1, .lst [tp (max t.b0 u.b0) (min t.b1 u.b1), tp t.p0 t.p1, tp t.e0 t.e1]) :: (lB1, .lst [tp (max t.b0 u.b0) (min t.b1 u.b1), tp t.p0 (min t.p1 (u.p0 - 1)), tp t.e0 t.e1]) :: (l_2, .lst [tp (max t.b0 u.b0) (min t.b1 u.b1), tp (max t.p0 u.p0) t.p1, tp t.e0 t.e1]) :: (l_1, .lst [spanD C (tight t.b0 (min t.b1 (u.b0 - 1)) t.p0 t.p1 t.e0 t.e1), spanD C (tight (max (max t.b0 u.b0) (u.b1 + 1)) t.b1 t.p0 t.p1 t.e0 t.e1)]) :: M) ?_ rfl (fun _ _ h => h) (.refl _)
            refine ws_cons (w1_setI ?_ (by exact pg_sub pe_wp pe_wp set_list) rfl rfl rfl)
            refine we_tup ?_
            refine wa_cons ?_
            refine wcf hG (hr.mono (by decide)) ?_
            refine wa_cons ?_
            refine we_ix ?_ (fun _ _ => rfl)
            refine we_ix ?_ (fun _ _ => rfl)
            refine wv 3 rfl ?_
            refine wv 4 rfl ?_
            walk_at "ix"
            refine we_int ?_
            walk_at "ix"
            refine wa_cons ?_
            refine we_bin ?_
            refine we_ix ?_ (fun _ _ => rfl)
            refine wv 5 rfl ?_
            refine we_int ?_
            walk_at "ix"
            refine we_int ?_
            walk_at "op"
            refine wa_nil ?_
            refine use_greater ?_
            refine wa_cons ?_
            refine we_ix ?_ (fun _ _ => rfl)
            refine we_ix ?_ (fun _ _ => rfl)
            refine wv 3 rfl ?_
            refine wv 4 rfl ?_
            walk_at "ix"
            refine we_int ?_
            walk_at "ix"
            refine wa_nil ?_
            refine ⟨(by walk_at "size"), ?_⟩
            refine wv 7 rfl ?_
            refine wv 4 rfl ?_
            walk_at "seti"
            refine ws_weak (Γ' := [some (spanD C (some t)), some (spanD C (some u)), some (.adr l_1), some (.adr l_2), some (.int ((1 : Nat) : Int)), some (tp u.p0 u.p1), some (.adr lB1), some (.adr lA1), none]) (M' := (lA1, .lst [tp (max t.b0 u.b0) (min t.b1 u.b1), tp (max (max t.p0 u.p0) (u.p1 + 1)) t.p1, tp t.e0 t.e1]) :: (lB1, .lst [tp (max t.b0 u.b0) (min t.b1 u.b1), tp t.p0 (min t.p1 (u.p0 - 1)), tp t.e0 t.e1]) :: (l_2, .lst [tp (max t.b0 u.b0) (min t.b1 u.b1), tp (max t.p0 u.p0) t.p1, tp t.e0 t.e1]) :: (l_1, .lst [spanD C (tight t.b0 (min t.b1 (u.b0 - 1)) t.p0 t.p1 t.e0 t.e1), spanD C (tight (max (max t.b0 u.b0) (u.b1 + 1)) t.b1 t.p0 t.p1 t.e0 t.e1)]) :: M) ?_ rfl (fun _ _ h => h) (.refl _)
            refine ws_cons (w1_setI ?_ (by exact pg_sub pe_wp pe_wp set_list) rfl rfl rfl)
            refine we_tup ?_
            refine wa_cons ?_
            refine we_ix ?_ (fun _ _ => rfl)
            refine we_ix ?_ (fun _ _ => rfl)
            refine wv 3 rfl ?_
            refine wv 4 rfl ?_
            walk_at "ix"
            refine we_int ?_
            walk_at "ix"
            refine wa_cons ?_
            refine wcf hL (hr.mono (by decide)) ?_
            refine wa_cons ?_
            refine we_ix ?_ (fun _ _ => rfl)
            refine we_ix ?_ (fun _ _ => rfl)
            refine wv 3 rfl ?_
            refine wv 4 rfl ?_
            walk_at "ix"
            refine we_int ?_
            walk_at "ix"
            refine wa_cons ?_
            refine we_ix ?_ (fun _ _ => rfl)
            refine wv 5 rfl ?_
            refine we_int ?_
            walk_at "ix"
            refine wa_nil ?_
            refine use_lesser ?_
            refine wa_nil ?_
            refine ⟨(by walk_at "size"), ?_⟩
            refine wv 3 rfl ?_
            refine wv 4 rfl ?_
            walk_at "seti"
            refine ws_weak (Γ' := [some (spanD C (some t)), some (spanD C (some u)), some (.adr l_1), some (.adr l_2), some (.int ((1 : Nat) : Int)), some (tp u.p0 u.p1), some (.adr lB1), some (.adr lA1), none]) (M' := (lA1, .lst [tp (max t.b0 u.b0) (min t.b1 u.b1), tp (max (max t.p0 u.p0) (u.p1 + 1)) t.p1, tp t.e0 t.e1]) :: (lB1, .lst [tp (max t.b0 u.b0) (min t.b1 u.b1), tp t.p0 (min t.p1 (u.p0 - 1)), tp t.e0 t.e1]) :: (l_2, .lst [tp (max t.b0 u.b0) (min t.b1 u.b1), tp (max t.p0 u.p0) (min t.p1 u.p1), tp t.e0 t.e1]) :: (l_1, .lst [spanD C (tight t.b0 (min t.b1 (u.b0 - 1)) t.p0 t.p1 t.e0 t.e1), spanD C (tight (max (max t.b0 u.b0) (u.b1 + 1)) t.b1 t.p0 t.p1 t.e0 t.e1)]) :: M) ?_ rfl (fun _ _ h => h) (.refl _)
            refine ws_expr ?_
            refine we_extend ?_
            refine wv 2 rfl ?_
            refine ⟨_, 3, _, rfl, rfl, ?_⟩
            refine we_lstO ?_
            refine wa_cons ?_
            refine wmkS hM (hr.mono (by decide)) ?_
            refine wa_cons ?_
            refine we_ix ?_ (fun _ _ => rfl)
            refine wv 6 rfl ?_
            refine we_int ?_
            walk_at "ix"
            refine wa_cons ?_
            refine we_ix ?_ (fun _ _ => rfl)
            refine wv 6 rfl ?_
            refine we_int ?_
            walk_at "ix"
            refine wa_cons ?_
            refine we_ix ?_ (fun _ _ => rfl)
            refine wv 6 rfl ?_
            refine we_int ?_
            walk_at "ix"
            refine wa_nil ?_
            refine ⟨_, _, _, _, _, _, rfl, ?_⟩
            refine wa_cons ?_
            refine wmkS hM (hr.mono (by decide)) ?_
            refine wa_cons ?_
            refine we_ix ?_ (fun _ _ => rfl)
            refine wv 7 rfl ?_
            refine we_int ?_
            walk_at "ix"
            refine wa_cons ?_
            refine we_ix ?_ (fun _ _ => rfl)
            refine wv 7 rfl ?_
            refine we_int ?_
            walk_at "ix"
            refine wa_cons ?_
            refine we_ix ?_ (fun _ _ => rfl)
            refine wv 7 rfl ?_
            refine we_int ?_
            walk_at "ix"
            refine wa_nil ?_
            refine ⟨_, _, _, _, _, _, rfl, ?_⟩
            refine wa_nil ?_
            refine ⟨(by walk_at "size"), fun l_4 => ?_⟩
            refine ⟨4, 0, _, _, _, rfl, rfl, rfl, of_decide_eq_true rfl, ?_⟩
            refine ws_weak (Γ' := [some (spanD C (some t)), some (spanD C (some u)), some (.adr l_1), some (.adr l_2), some (.int ((1 : Nat) : Int)), some (tp u.p0 u.p1), some (.adr lB1), some (.adr lA1), none]) (M' := (l_2, .lst [tp (max t.b0 u.b0) (min t.b1 u.b1), tp (max t.p0 u.p0) (min t.p1 u.p1), tp t.e0 t.e1]) :: (l_1, .lst [spanD C (tight t.b0 (min t.b1 (u.b0 - 1)) t.p0 t.p1 t.e0 t.e1), spanD C (tight (max (max t.b0 u.b0) (u.b1 + 1)) t.b1 t.p0 t.p1 t.e0 t.e1), spanD C (tight (max t.b0 u.b0) (min t.b1 u.b1) t.p0 (min t.p1 (u.p0 - 1)) t.e0 t.e1), spanD C (tight (max t.b0 u.b0) (min t.b1 u.b1) (max (max t.p0 u.p0) (u.p1 + 1)) t.p1 t.e0 t.e1)]) :: M) ?_ rfl (fun _ _ h => h) (.cons _ (.cons _ (.cons _ (.refl _))))
            refine ws_nil ?_
            show GD _ _ _ _ _ _
            refine gd_tup rfl ?_ rfl
            refine gds_cons ?_
            refine gd_name 4 sc_Span_less.nd ?_
            refine gds_cons ?_
            refine gd_name 5 sc_Span_less.nd ?_
            refine gds_nil ?_
            refine ws_par 6 7 sc_Span_less.nd ?_
            refine wa_cons ?_
            refine wcT B.list boot_list ?_
            refine wa_cons ?_
            refine wv 3 rfl ?_
            refine wa_nil ?_
            walk_at "lst"
            intro lB2
            refine wa_cons ?_
            refine wcT B.list boot_list ?_
            refine wa_cons ?_
            refine wv 3 rfl ?_
            refine wa_nil ?_
            walk_at "lst"
            intro lA2
            refine wa_nil ?_
            refine ⟨_, _, rfl, ?_⟩
            refine ws_weak (Γ' := [some (spanD C (some t)), some (spanD C (some u)), some (.adr l_1), some (.adr l_2), some (.int ((2 : Nat) : Int)), some (tp u.e0 u.e1), some (.adr lB2), some (.adr lA2), none]) (M' := (lA2, .lst [tp (max t.b0 u.b0) (min t.b1 u.b1), tp (max t.p0 u.p0) (min t.p1 u.p1), tp t.e0 t.e1]) :: (lB2, .lst [tp (max t.b0 u.b0) (min t.b1 u.b1), tp (max t.p0 u.p0) (min t.p1 u.p1), tp t.e0 t.e1]) :: (l_2, .lst [tp (max t.b0 u.b0) (min t.b1 u.b1), tp (max t.p0 u.p0) (min t.p1 u.p1), tp t.e0 t.e1]) :: (l_1, .lst [spanD C (tight t.b0 (min t.b1 (u.b0 - 1)) t.p0 t.p1 t.e0 t.e1), spanD C (tight (max (max t.b0 u.b0) (u.b1 + 1)) t.b1 t.p0 t.p1 t.e0 t.e1), spanD C (tight (max t.b0 u.b0) (min t.b1 u.b1) t.p0 (min t.p1 (u.p0 - 1)) t.e0 t.e1), spanD C (tight (max t.b0 u.b0) (min t.b1 u.b1) (max (max t.p0 u.p0) (u.p1 + 1)) t.p1 t.e0 t.e1)]) :: M) ?_ rfl (fun _ _ h => h) (.refl _)
            refine ws_cons (w1_setI ?_ (by exact pg_sub pe_wp pe_wp set_list) rfl rfl rfl)
            refine we_tup ?_
            refine wa_cons ?_
            refine we_ix ?_ (fun _ _ => rfl)
            refine we_ix ?_ (fun _ _ => rfl)
            refine wv 3 rfl ?_
            refine wv 4 rfl ?_
            walk_at "ix"
            refine we_int ?_
            walk_at "ix"
            refine wa_cons ?_
            refine wcf hL (hr.mono (by decide)) ?_
            refine wa_cons ?_
            refine we_ix ?_ (fun _ _ => rfl)
            refine we_ix ?_ (fun _ _ => rfl)
            refine wv 3 rfl ?_
            refine wv 4 rfl ?_
            walk_at "ix"
            refine we_int ?_
            walk_at "ix"
            refine wa_cons ?_
            refine we_bin ?_
            refine we_ix ?_ (fun _ _ => rfl)
            refine wv 5 rfl ?_
            refine we_int ?_
            walk_at "ix"
            refine we_int ?_
            walk_at "op"
            refine wa_nil ?_
            refine use_lesser ?_
            refine wa_nil ?_
            refine ⟨(by walk_at "size"), ?_⟩
            refine wv 6 rfl ?_
            refine wv 4 rfl ?_
            walk_at "seti"
            refine ws_weak (Γ' := [some (spanD C (some t)), some (spanD C (some u)), some (.adr l_1), some (.adr l_2), some (.int ((2 : Nat) : Int)), some (tp u.e0 u.e1), some (.adr lB2), some (.adr lA2), none]) (M' := (lA2, .lst [tp (max t.b0 u.b0) (min t.b1 u.b1), tp (max t.p0 u.p0) (min t.p1 u.p1), tp t.e0 t.e1]) :: (lB2, .lst [tp (max t.b0 u.b0) (min t.b1 u.b1), tp (max t.p0 u.p0) (min t.p1 u.p1), tp t.e0 (min t.e1 (u.e0 - 1))]) :: (l_2, .lst [tp (max t.b0 u.b0) (min t.b1 u.b1), tp (max t.p0 u.p0) (min t.p1 u.p1), tp t.e0 t.e1]) :: (l_1, .lst [spanD C (tight t.b0 (min t.b1 (u.b0 - 1)) t.p0 t.p1 t.e0 t.e1), spanD C (tight (max (max t.b0 u.b0) (u.b1 + 1)) t.b1 t.p0 t.p1 t.e0 t.e1), spanD C (tight (max t.b0 u.b0) (min t.b1 u.b1) t.p0 (min t.p1 (u.p0 - 1)) t.e0 t.e1), spanD C (tight (max t.b0 u.b0) (min t.b1 u.b1) (max (max t.p0 u.p0) (u.p1 + 1)) t.p1 t.e0 t.e1)]) :: M) ?_ rfl (fun _ _ h => h) (.refl _)
            refine ws_cons (w1_setI ?_ (by exact pg_sub pe_wp pe_wp set_list) rfl rfl rfl)
            refine we_tup ?_
            refine wa_cons ?_
            refine wcf hG (hr.mono (by decide)) ?_
            refine wa_cons ?_
            refine we_ix ?_ (fun _ _ => rfl)
            refine we_ix ?_ (fun _ _ => rfl)
            refine wv 3 rfl ?_
            refine wv 4 rfl ?_
            walk_at "ix"
            refine we_int ?_
            walk_at "ix"
            refine wa_cons ?_
            refine we_ix ?_ (fun _ _ => rfl)
            refine wv 5 rfl ?_
            refine we_int ?_
            walk_at "ix"
            refine wa_nil ?_
            refine use_greater ?_
            refine wa_cons ?_
            refine we_ix ?_ (fun _ _ => rfl)
            refine we_ix ?_ (fun _ _ => rfl)
            refine wv 3 rfl ?_
            refine wv 4 rfl ?_
            walk_at "ix"
            refine we_int ?_
            walk_at "ix"
            refine wa_nil ?_
            refine ⟨(by walk_at "size"), ?_⟩
            refine wv 3 rfl ?_
            refine wv 4 rfl ?_
            walk_at "seti"
            refine ws_weak (Γ' := [some (spanD C (some t)), some (spanD C (some u)), some (.adr l_1), some (.adr l_2), some (.int ((2 : Nat) : Int)), some (tp u.e0 u.e1), some (.adr lB2), some (.adr lA2), none]) (M' := (lA2, .lst [tp (max t.b0 u.b0) (min t.b1 u.b1), tp (max t.p0 u.p0) (min t.p1 u.p1), tp t.e0 t.e1]) :: (lB2, .lst [tp (max t.b0 u.b0) (min t.b1 u.b1), tp (max t.p0 u.p0) (min t.p1 u.p1), tp t.e0 (min t.e1 (u.e0 - 1))]) :: (l_2, .lst [tp (max t.b0 u.b0) (min t.b1 u.b1), tp (max t.p0 u.p0) (min t.p1 u.p1), tp (max t.e0 u.e0) t.e1]) :: (l_1, .lst [spanD C (tight t.b0 (min t.b1 (u.b0 - 1)) t.p0 t.p1 t.e0 t.e1), spanD C (tight (max (max t.b0 u.b0) (u.b1 + 1)) t.b1 t.p0 t.p1 t.e0 t.e1), spanD C (tight (max t.b0 u.b0) (min t.b1 u.b1) t.p0 (min t.p1 (u.p0 - 1)) t.e0 t.e1), spanD C (tight (max t.b0 u.b0) (min t.b1 u.b1) (max (max t.p0 u.p0) (u.p1 + 1)) t.p1 t.e0 t.e1)]) :: M) ?_ rfl (fun _ _ h => h) (.refl _)
            refine ws_cons (w1_setI ?_ (by exact pg_sub pe_wp pe_wp set_list) rfl rfl rfl)
            refine we_tup ?_
            refine wa_cons ?_
            refine wcf hG (hr.mono (by decide)) ?_
            refine wa_cons ?_
            refine we_ix ?_ (fun _ _ => rfl)
            refine we_ix ?_ (fun _ _ => rfl)
            refine wv 3 rfl ?_
            refine wv 4 rfl ?_
            walk_at "ix"
            refine we_int ?_
            walk_at "ix"
            refine wa_cons ?_
            refine we_bin ?_
            refine we_ix ?_ (fun _ _ => rfl)
            refine wv 5 rfl ?_
            refine we_int ?_
            walk_at "ix"
            refine we_int ?_
            walk_at "op"
            refine wa_nil ?_
            refine use_greater ?_
            refine wa_cons ?_
            refine we_ix ?_ (fun _ _ => rfl)
            refine we_ix ?_ (fun _ _ => rfl)
            refine wv 3 rfl ?_
            refine wv 4 rfl ?_
            walk_at "ix"
            refine we_int ?_
            walk_at "ix"
            refine wa_nil ?_
            refine ⟨(by walk_at "size"), ?_⟩
            refine wv 7 rfl ?_
            refine wv 4 rfl ?_
            walk_at "seti"
            refine ws_weak (Γ' := [some (spanD C (some t)), some (spanD C (some u)), some (.adr l_1), some (.adr l_2), some (.int ((2 : Nat) : Int)), some (tp u.e0 u.e1), some (.adr lB2), some (.adr lA2), none]) (M' := (lA2, .lst [tp (max t.b0 u.b0) (min t.b1 u.b1), tp (max t.p0 u.p0) (min t.p1 u.p1), tp (max (max t.e0 u.e0) (u.e1 + 1)) t.e1]) :: (lB2, .lst [tp (max t.b0 u.b0) (min t.b1 u.b1), tp (max t.p0 u.p0) (min t.p1 u.p1), tp t.e0 (min t.e1 (u.e0 - 1))]) :: (l_2, .lst [tp (max t.b0 u.b0) (min t.b1 u.b1), tp (max t.p0 u.p0) (min t.p1 u.p1), tp (max t.e0 u.e0) t.e1]) :: (l_1, .lst [spanD C (tight t.b0 (min t.b1 (u.b0 - 1)) t.p0 t.p1 t.e0 t.e1), spanD C (tight (max (max t.b0 u.b0) (u.b1 + 1)) t.b1 t.p0 t.p1 t.e0 t.e1), spanD C (tight (max t.b0 u.b0) (min t.b1 u.b1) t.p0 (min t.p1 (u.p0 - 1)) t.e0 t.e1), spanD C (tight (max t.b0 u.b0) (min t.b1 u.b1) (max (max t.p0 u.p0) (u.p1 + 1)) t.p1 t.e0 t.e1)]) :: M) ?_ rfl (fun _ _ h => h) (.refl _)
            refine ws_cons (w1_setI ?_ (by exact pg_sub pe_wp pe_wp set_list) rfl rfl rfl)
            refine we_tup ?_
            refine wa_cons ?_
            refine we_ix ?_ (fun _ _ => rfl)
            refine we_ix ?_ (fun _ _ => rfl)
            refine wv 3 rfl ?_
            refine wv 4 rfl ?_
            walk_at "ix"
            refine we_int ?_
            walk_at "ix"
            refine wa_cons ?_
            refine wcf hL (hr.mono (by decide)) ?_
            refine wa_cons ?_
            refine we_ix ?_ (fun _ _ => rfl)
            refine we_ix ?_ (fun _ _ => rfl)
            refine wv 3 rfl ?_
            refine wv 4 rfl ?_
            walk_at "ix"
            refine we_int ?_
            walk_at "ix"
            refine wa_cons ?_
            refine we_ix ?_ (fun _ _ => rfl)
            refine wv 5 rfl ?_
            refine we_int ?_
            walk_at "ix"
            refine wa_nil ?_
            refine use_lesser ?_
            refine wa_nil ?_
            refine ⟨(by walk_at "size"), ?_⟩
            refine wv 3 rfl ?_
            refine wv 4 rfl ?_
            walk_at "seti"
            refine ws_weak (Γ' := [some (spanD C (some t)), some (spanD C (some u)), some (.adr l_1), some (.adr l_2), some (.int ((2 : Nat) : Int)), some (tp u.e0 u.e1), some (.adr lB2), some (.adr lA2), none]) (M' := (lA2, .lst [tp (max t.b0 u.b0) (min t.b1 u.b1), tp (max t.p0 u.p0) (min t.p1 u.p1), tp (max (max t.e0 u.e0) (u.e1 + 1)) t.e1]) :: (lB2, .lst [tp (max t.b0 u.b0) (min t.b1 u.b1), tp (max t.p0 u.p0) (min t.p1 u.p1), tp t.e0 (min t.e1 (u.e0 - 1))]) :: (l_2, .lst [tp (max t.b0 u.b0) (min t.b1 u.b1), tp (max t.p0 u.p0) (min t.p1 u.p1), tp (max t.e0 u.e0) (min t.e1 u.e1)]) :: (l_1, .lst [spanD C (tight t.b0 (min t.b1 (u.b0 - 1)) t.p0 t.p1 t.e0 t.e1), spanD C (tight (max (max t.b0 u.b0) (u.b1 + 1)) t.b1 t.p0 t.p1 t.e0 t.e1), spanD C (tight (max t.b0 u.b0) (min t.b1 u.b1) t.p0 (min t.p1 (u.p0 - 1)) t.e0 t.e1), spanD C (tight (max t.b0 u.b0) (min t.b1 u.b1) (max (max t.p0 u.p0) (u.p1 + 1)) t.p1 t.e0 t.e1)]) :: M) ?_ rfl (fun _ _ h => h) (.refl _)
            refine ws_expr ?_
            refine we_extend ?_
            refine wv 2 rfl ?_
            refine ⟨_, 3, _, rfl, rfl, ?_⟩
            refine we_lstO ?_
            refine wa_cons ?_
            refine wmkS hM (hr.mono (by decide)) ?_
            refine wa_cons ?_
            refine we_ix ?_ (fun _ _ => rfl)
            refine wv 6 rfl ?_
            refine we_int ?_
            walk_at "ix"
            refine wa_cons ?_
            refine we_ix ?_ (fun _ _ => rfl)
            refine wv 6 rfl ?_
            refine we_int ?_
            walk_at "ix"
            refine wa_cons ?_
            refine we_ix ?_ (fun _ _ => rfl)
            refine wv 6 rfl ?_
            refine we_int ?_
            walk_at "ix"
            refine wa_nil ?_
            refine ⟨_, _, _, _, _, _, rfl, ?_⟩
            refine wa_cons ?_
            refine wmkS hM (hr.mono (by decide)) ?_
            refine wa_cons ?_
            refine we_ix ?_ (fun _ _ => rfl)
            refine wv 7 rfl ?_
            refine we_int ?_
            walk_at "ix"
            refine wa_cons ?_
            refine we_ix ?_ (fun _ _ => rfl)
            refine wv 7 rfl ?_
            refine we_int ?_
            walk_at "ix"
            refine wa_cons ?_
            refine we_ix ?_ (fun _ _ => rfl)
            refine wv 7 rfl ?_
            refine we_int ?_
            walk_at "ix"
            refine wa_nil ?_
            refine ⟨_, _, _, _, _, _, rfl, ?_⟩
            refine wa_nil ?_
            refine ⟨(by walk_at "size"), fun l_5 => ?_⟩
            refine ⟨4, 0, _, _, _, rfl, rfl, rfl, of_decide_eq_true rfl, ?_⟩
            refine ws_weak (Γ' := [some (spanD C (some t)), some (spanD C (some u)), some (.adr l_1), some (.adr l_2), some (.int ((2 : Nat) : Int)), some (tp u.e0 u.e1), some (.adr lB2), some (.adr lA2), none]) (M' := (l_2, .lst [tp (max t.b0 u.b0) (min t.b1 u.b1), tp (max t.p0 u.p0) (min t.p1 u.p1), tp (max t.e0 u.e0) (min t.e1 u.e1)]) :: (l_1, .lst [spanD C (tight t.b0 (min t.b1 (u.b0 - 1)) t.p0 t.p1 t.e0 t.e1), spanD C (tight (max (max t.b0 u.b0) (u.b1 + 1)) t.b1 t.p0 t.p1 t.e0 t.e1), spanD C (tight (max t.b0 u.b0) (min t.b1 u.b1) t.p0 (min t.p1 (u.p0 - 1)) t.e0 t.e1), spanD C (tight (max t.b0 u.b0) (min t.b1 u.b1) (max (max t.p0 u.p0) (u.p1 + 1)) t.p1 t.e0 t.e1), spanD C (tight (max t.b0 u.b0) (min t.b1 u.b1) (max t.p0 u.p0) (min t.p1 u.p1) t.e0 (min t.e1 (u.e0 - 1))), spanD C (tight (max t.b0 u.b0) (min t.b1 u.b1) (max t.p0 u.p0) (min t.p1 u.p1) (max (max t.e0 u.e0) (u.e1 + 1)) t.e1)]) :: M) ?_ rfl (fun _ _ h => h) (.cons _ (.cons _ (.cons _ (.refl _))))
            refine ws_nil ?_
            show WS _ _ _ _ _
            refine ws_weak (Γ' := _) (M' := (l_1, .lst ((cands t u).map (spanD C))) :: M) ?_ rfl (fun _ _ h => h) ?_
            rotate_left
            · repeat (first | exact List.Sublist.refl _ | refine List.Sublist.cons _ ?_)
            refine ws_freeze (i := 2) rfl ?_
            refine ws_ret ?_
            refine wcT B.tuple boot_tuple ?_
            refine wa_cons ?_
            refine lcMapLF (own := [("span", 8)]) (j := 8) sc_Span_less.nd ?_ (blkOk_by (N := ["self", "other", "found", "left", "at", "bounds", "below", "above", "span"]) (sc := defScope s_Span_less) (by decide +kernel)) (fun _ _ _ _ _ => pg_name (i := 8) sc_Span_less.nd rfl (Or.inl rfl))
            refine wv 2 rfl ?_
            refine ⟨_, spOk, fun y => y, rfl, (show 6 < sizeLine by decide), fun i y hy l out s H C' cl fp => ?_, fun i y hy _ l out s H C' cl fp => ?_, ?_⟩
            · obtain ⟨z, rfl⟩ : ∃ z, y = spanD C z := by
                obtain ⟨z, _, rfl⟩ := List.mem_map.mp (show y ∈ (cands t u).map (spanD C) from List.mem_of_getElem? hy)
                exact ⟨z, rfl⟩
              cases z with
              | none =>
                refine wt_val ?_ (by intro _; rfl)
                refine wv 8 rfl ?_
                exact tr_own hB (hr.mono (by decide)) (.inl rfl) (use_boolN ⟨_, rfl, rfl, rfl⟩)
              | some z =>
                refine wt_val ?_ (by intro _; rfl)
                refine wv 8 rfl ?_
                exact tr_own hB (hr.mono (by decide)) (.inl rfl) (use_boolS ⟨_, rfl, rfl, rfl⟩)
            · refine wv 8 rfl ?_
              exact ⟨rfl, rfl⟩
            refine wa_nil ?_
            refine cd_tuple (.inl rfl) ?_
            first
            | exact q
            | (rw [less_list] ; exact q)
end
end Sl57

set_option Elab.async false
set_option linter.all false
set_option maxRecDepth 100000
set_option maxHeartbeats 1000000

namespace Sl57
open PySem PySem.Spec PyProof.Rows L2 Dt
set_option hygiene false
local macro_rules | `(tactic| walk_at "op") => `(tactic| (first
  | refine od_add ?_ | refine od_sub ?_ | refine od_lt ?_ | refine od_le ?_ | refine od_gt ?_ | refine od_ge ?_ | refine od_eq ?_ | refine od_ne ?_ | refine od_is ?_ | refine od_isn ?_
  | refine od_eqS ?_ | refine od_neS ?_ | refine od_eqB ?_ | refine od_neB ?_))
local macro_rules | `(tactic| walk_at "dead") => `(tactic| (first
  | (cases hb; done)
  | (exact absurd (show false = true from hb) (by decide))
  | (exact absurd (show true = false from hb) (by decide))
  | (exact absurd hb (by decide))
  | (exfalso; simp only [decide_eq_true_eq, decide_eq_false_iff_not, Bool.not_eq_true', Bool.not_eq_false'] at hb; omega)))
local macro_rules | `(tactic| walk_at "tidy") => `(tactic| (try simp only [decide_eq_true_eq, decide_eq_false_iff_not, Bool.not_eq_true', Bool.not_eq_false'] at hb))
local macro_rules | `(tactic| walk_at "truth") => `(tactic| (first | refine tr_bl ?_ | refine tr_lst ?_ | refine tr_tup ?_ | refine tr_non ?_ | refine tr_int ?_))
local macro_rules | `(tactic| walk_at "ix") => `(tactic| (first
  | refine ix_tup (j := 0) rfl rfl ?_ | refine ix_tup (j := 1) rfl rfl ?_ | refine ix_tup (j := 2) rfl rfl ?_
  | refine ix_lst (j := 0) rfl rfl ?_ | refine ix_lst (j := 1) rfl rfl ?_ | refine ix_lst (j := 2) rfl rfl ?_
  | refine ix_own (k := 0) (j := 0) rfl rfl rfl ?_
  | refine ix_own (k := 0) (j := 1) rfl rfl rfl ?_
  | refine ix_own (k := 0) (j := 2) rfl rfl rfl ?_
  | refine ix_own (k := 1) (j := 0) rfl rfl rfl ?_
  | refine ix_own (k := 1) (j := 1) rfl rfl rfl ?_
  | refine ix_own (k := 1) (j := 2) rfl rfl rfl ?_
  | refine ix_own (k := 2) (j := 0) rfl rfl rfl ?_
  | refine ix_own (k := 2) (j := 1) rfl rfl rfl ?_
  | refine ix_own (k := 2) (j := 2) rfl rfl rfl ?_
  | refine ix_own (k := 3) (j := 0) rfl rfl rfl ?_
  | refine ix_own (k := 3) (j := 1) rfl rfl rfl ?_
  | refine ix_own (k := 3) (j := 2) rfl rfl rfl ?_
  | refine ix_own (k := 4) (j := 0) rfl rfl rfl ?_
  | refine ix_own (k := 4) (j := 1) rfl rfl rfl ?_
  | refine ix_own (k := 4) (j := 2) rfl rfl rfl ?_
  | refine ix_own (k := 5) (j := 0) rfl rfl rfl ?_
  | refine ix_own (k := 5) (j := 1) rfl rfl rfl ?_
  | refine ix_own (k := 5) (j := 2) rfl rfl rfl ?_
  | refine ix_own (k := 6) (j := 0) rfl rfl rfl ?_
  | refine ix_own (k := 6) (j := 1) rfl rfl rfl ?_
  | refine ix_own (k := 6) (j := 2) rfl rfl rfl ?_
  | refine ix_own (k := 7) (j := 0) rfl rfl rfl ?_
  | refine ix_own (k := 7) (j := 1) rfl rfl rfl ?_
  | refine ix_own (k := 7) (j := 2) rfl rfl rfl ?_
  | refine ix_own (k := 8) (j := 0) rfl rfl rfl ?_
  | refine ix_own (k := 8) (j := 1) rfl rfl rfl ?_
  | refine ix_own (k := 8) (j := 2) rfl rfl rfl ?_
  | refine ix_own (k := 9) (j := 0) rfl rfl rfl ?_
  | refine ix_own (k := 9) (j := 1) rfl rfl rfl ?_
  | refine ix_own (k := 9) (j := 2) rfl rfl rfl ?_
  | refine ix_own (k := 10) (j := 0) rfl rfl rfl ?_
  | refine ix_own (k := 10) (j := 1) rfl rfl rfl ?_
  | refine ix_own (k := 10) (j := 2) rfl rfl rfl ?_
  | refine ix_own (k := 11) (j := 0) rfl rfl rfl ?_
  | refine ix_own (k := 11) (j := 1) rfl rfl rfl ?_
  | refine ix_own (k := 11) (j := 2) rfl rfl rfl ?_
  | refine ix_own (k := 12) (j := 0) rfl rfl rfl ?_
  | refine ix_own (k := 12) (j := 1) rfl rfl rfl ?_
  | refine ix_own (k := 12) (j := 2) rfl rfl rfl ?_
  | refine ix_own (k := 13) (j := 0) rfl rfl rfl ?_
  | refine ix_own (k := 13) (j := 1) rfl rfl rfl ?_
  | refine ix_own (k := 13) (j := 2) rfl rfl rfl ?_))
local macro_rules | `(tactic| walk_at "seti") => `(tactic| (first
  | refine ⟨0, 0, _, _, _, rfl, rfl, rfl, rfl, of_decide_eq_true rfl, ?_⟩
  | refine ⟨0, 1, _, _, _, rfl, rfl, rfl, rfl, of_decide_eq_true rfl, ?_⟩
  | refine ⟨0, 2, _, _, _, rfl, rfl, rfl, rfl, of_decide_eq_true rfl, ?_⟩
  | refine ⟨1, 0, _, _, _, rfl, rfl, rfl, rfl, of_decide_eq_true rfl, ?_⟩
  | refine ⟨1, 1, _, _, _, rfl, rfl, rfl, rfl, of_decide_eq_true rfl, ?_⟩
  | refine ⟨1, 2, _, _, _, rfl, rfl, rfl, rfl, of_decide_eq_true rfl, ?_⟩
  | refine ⟨2, 0, _, _, _, rfl, rfl, rfl, rfl, of_decide_eq_true rfl, ?_⟩
  | refine ⟨2, 1, _, _, _, rfl, rfl, rfl, rfl, of_decide_eq_true rfl, ?_⟩
  | refine ⟨2, 2, _, _, _, rfl, rfl, rfl, rfl, of_decide_eq_true rfl, ?_⟩
  | refine ⟨3, 0, _, _, _, rfl, rfl, rfl, rfl, of_decide_eq_true rfl, ?_⟩
  | refine ⟨3, 1, _, _, _, rfl, rfl, rfl, rfl, of_decide_eq_true rfl, ?_⟩
  | refine ⟨3, 2, _, _, _, rfl, rfl, rfl, rfl, of_decide_eq_true rfl, ?_⟩
  | refine ⟨4, 0, _, _, _, rfl, rfl, rfl, rfl, of_decide_eq_true rfl, ?_⟩
  | refine ⟨4, 1, _, _, _, rfl, rfl, rfl, rfl, of_decide_eq_true rfl, ?_⟩
  | refine ⟨4, 2, _, _, _, rfl, rfl, rfl, rfl, of_decide_eq_true rfl, ?_⟩
  | refine ⟨5, 0, _, _, _, rfl, rfl, rfl, rfl, of_decide_eq_true rfl, ?_⟩
  | refine ⟨5, 1, _, _, _, rfl, rfl, rfl, rfl, of_decide_eq_true rfl, ?_⟩
  | refine ⟨5, 2, _, _, _, rfl, rfl, rfl, rfl, of_decide_eq_true rfl, ?_⟩
  | refine ⟨6, 0, _, _, _, rfl, rfl, rfl, rfl, of_decide_eq_true rfl, ?_⟩
  | refine ⟨6, 1, _, _, _, rfl, rfl, rfl, rfl, of_decide_eq_true rfl, ?_⟩
  | refine ⟨6, 2, _, _, _, rfl, rfl, rfl, rfl, of_decide_eq_true rfl, ?_⟩
  | refine ⟨7, 0, _, _, _, rfl, rfl, rfl, rfl, of_decide_eq_true rfl, ?_⟩
  | refine ⟨7, 1, _, _, _, rfl, rfl, rfl, rfl, of_decide_eq_true rfl, ?_⟩
  | refine ⟨7, 2, _, _, _, rfl, rfl, rfl, rfl, of_decide_eq_true rfl, ?_⟩
  | refine ⟨8, 0, _, _, _, rfl, rfl, rfl, rfl, of_decide_eq_true rfl, ?_⟩
  | refine ⟨8, 1, _, _, _, rfl, rfl, rfl, rfl, of_decide_eq_true rfl, ?_⟩
  | refine ⟨8, 2, _, _, _, rfl, rfl, rfl, rfl, of_decide_eq_true rfl, ?_⟩
  | refine ⟨9, 0, _, _, _, rfl, rfl, rfl, rfl, of_decide_eq_true rfl, ?_⟩
  | refine ⟨9, 1, _, _, _, rfl, rfl, rfl, rfl, of_decide_eq_true rfl, ?_⟩
  | refine ⟨9, 2, _, _, _, rfl, rfl, rfl, rfl, of_decide_eq_true rfl, ?_⟩
  | refine ⟨10, 0, _, _, _, rfl, rfl, rfl, rfl, of_decide_eq_true rfl, ?_⟩
  | refine ⟨10, 1, _, _, _, rfl, rfl, rfl, rfl, of_decide_eq_true rfl, ?_⟩
  | refine ⟨10, 2, _, _, _, rfl, rfl, rfl, rfl, of_decide_eq_true rfl, ?_⟩
  | refine ⟨11, 0, _, _, _, rfl, rfl, rfl, rfl, of_decide_eq_true rfl, ?_⟩
  | refine ⟨11, 1, _, _, _, rfl, rfl, rfl, rfl, of_decide_eq_true rfl, ?_⟩
  | refine ⟨11, 2, _, _, _, rfl, rfl, rfl, rfl, of_decide_eq_true rfl, ?_⟩
  | refine ⟨12, 0, _, _, _, rfl, rfl, rfl, rfl, of_decide_eq_true rfl, ?_⟩
  | refine ⟨12, 1, _, _, _, rfl, rfl, rfl, rfl, of_decide_eq_true rfl, ?_⟩
  | refine ⟨12, 2, _, _, _, rfl, rfl, rfl, rfl, of_decide_eq_true rfl, ?_⟩
  | refine ⟨13, 0, _, _, _, rfl, rfl, rfl, rfl, of_decide_eq_true rfl, ?_⟩
  | refine ⟨13, 1, _, _, _, rfl, rfl, rfl, rfl, of_decide_eq_true rfl, ?_⟩
  | refine ⟨13, 2, _, _, _, rfl, rfl, rfl, rfl, of_decide_eq_true rfl, ?_⟩))
local macro_rules | `(tactic| walk_at "lst") => `(tactic| (first
  | refine cd_list (.inr (.inr ⟨0, _, rfl, rfl⟩)) ?_
  | refine cd_list (.inr (.inr ⟨1, _, rfl, rfl⟩)) ?_
  | refine cd_list (.inr (.inr ⟨2, _, rfl, rfl⟩)) ?_
  | refine cd_list (.inr (.inr ⟨3, _, rfl, rfl⟩)) ?_
  | refine cd_list (.inr (.inr ⟨4, _, rfl, rfl⟩)) ?_
  | refine cd_list (.inr (.inr ⟨5, _, rfl, rfl⟩)) ?_
  | refine cd_list (.inr (.inr ⟨6, _, rfl, rfl⟩)) ?_
  | refine cd_list (.inr (.inr ⟨7, _, rfl, rfl⟩)) ?_
  | refine cd_list (.inr (.inr ⟨8, _, rfl, rfl⟩)) ?_
  | refine cd_list (.inr (.inr ⟨9, _, rfl, rfl⟩)) ?_
  | refine cd_list (.inr (.inr ⟨10, _, rfl, rfl⟩)) ?_
  | refine cd_list (.inr (.inr ⟨11, _, rfl, rfl⟩)) ?_
  | refine cd_list (.inr (.inr ⟨12, _, rfl, rfl⟩)) ?_
  | refine cd_list (.inr (.inr ⟨13, _, rfl, rfl⟩)) ?_))
local macro_rules | `(tactic| walk_at "isi") => `(tactic| (first | refine cd_isi (k := true) rfl (by decide +kernel) ?_ | refine cd_isi (k := false) rfl (by decide +kernel) ?_))
local macro_rules | `(tactic| walk_at "size") => `(tactic| (first
  | exact (show 0 ≤ sizeLine by decide) | exact (show 1 ≤ sizeLine by decide) | exact (show 2 ≤ sizeLine by decide) | exact (show 3 ≤ sizeLine by decide) | exact (show 4 ≤ sizeLine by decide) | exact (show 5 ≤ sizeLine by decide) | exact (show 6 ≤ sizeLine by decide)))

section
variable {P : Program} {w : World} {K : PySem.W.Frag} {mg : Str → Option Value} {base : Heap}
abbrev s_Span_and : Stmt := inClass (top 12) 9
theorem sc_Span_and : FnScope ["self", "other", "bounds", "one", "two"] ["self", "other"] (defScope s_Span_and) := ⟨rfl, rfl, rfl, by decide +kernel, rfl, by decide +kernel, by decide +kernel⟩
theorem ok_Span_and {f : Addr} {fd : FuncData} (F : FunD K "__and__" "Span.__and__" (defArgs s_Span_and) (defBody s_Span_and) (defScope s_Span_and) [] [] f fd) (B : Bf mg) {C : Addr} (hS : SpC K C) (hB : HasMe P w K mg base 1 C "__bool__" (S_bool C)) (hG : HasFn P w K mg base 1 "greater" S_greater) (hL : HasFn P w K mg base 1 "lesser" S_lesser) (hM : HasMk P w K mg base 4 C "Span" (S_init C)) : FnOk P w K mg base CX0 6 f fd ["self", "other"] (spOf K (S_and C)) := by
  refine fn_data (k := 5) F sc_Span_and (fun ds M Φ h => ?_) (fun cdv A outer s H E ds M Φ hr h => ?_)
  · obtain ⟨t, u, rfl, q⟩ := h
    all_goals rfl
  · obtain ⟨t, u, rfl, q⟩ := h
    cases t with
    | none =>
      cases u with
      | none =>
        refine ws_if ?_
        refine wt_bool ?_
        refine ww_or ?_
        refine wt_not ?_
        refine wt_val ?_ (by intro _; rfl)
        refine wv 0 rfl ?_
        first
        | refine tr_own hB (hr.mono (by decide)) (.inl rfl) (use_boolS ⟨_, rfl, ?_⟩)
        | refine tr_own hB (hr.mono (by decide)) (.inl rfl) (use_boolN ⟨_, rfl, ?_⟩)
        refine ⟨fun hb => ?_, fun hb => ?_⟩
        · walk_at "tidy"
          refine ⟨fun hb => ?_, fun hb => ?_⟩
          · walk_at "tidy"
            refine ws_ret ?_
            refine wmkS hM (hr.mono (by decide)) ?_
            refine wa_cons ?_
            refine we_tup ?_
            refine wa_cons ?_
            refine we_int ?_
            refine wa_cons ?_
            refine we_int ?_
            refine wa_nil ?_
            refine ⟨(by walk_at "size"), ?_⟩
            refine wa_cons ?_
            refine we_tup ?_
            refine wa_cons ?_
            refine we_int ?_
            refine wa_cons ?_
            refine we_int ?_
            refine wa_nil ?_
            refine ⟨(by walk_at "size"), ?_⟩
            refine wa_cons ?_
            refine we_tup ?_
            refine wa_cons ?_
            refine we_int ?_
            refine wa_cons ?_
            refine we_int ?_
            refine wa_nil ?_
            refine ⟨(by walk_at "size"), ?_⟩
            refine wa_nil ?_
            refine ⟨_, _, _, _, _, _, rfl, ?_⟩
            exact q
          · walk_at "dead"
        · walk_at "dead"
      | some u =>
        refine ws_if ?_
        refine wt_bool ?_
        refine ww_or ?_
        refine wt_not ?_
        refine wt_val ?_ (by intro _; rfl)
        refine wv 0 rfl ?_
        first
        | refine tr_own hB (hr.mono (by decide)) (.inl rfl) (use_boolS ⟨_, rfl, ?_⟩)
        | refine tr_own hB (hr.mono (by decide)) (.inl rfl) (use_boolN ⟨_, rfl, ?_⟩)
        refine ⟨fun hb => ?_, fun hb => ?_⟩
        · walk_at "tidy"
          refine ⟨fun hb => ?_, fun hb => ?_⟩
          · walk_at "tidy"
            refine ws_ret ?_
            refine wmkS hM (hr.mono (by decide)) ?_
            refine wa_cons ?_
            refine we_tup ?_
            refine wa_cons ?_
            refine we_int ?_
            refine wa_cons ?_
            refine we_int ?_
            refine wa_nil ?_
            refine ⟨(by walk_at "size"), ?_⟩
            refine wa_cons ?_
            refine we_tup ?_
            refine wa_cons ?_
            refine we_int ?_
            refine wa_cons ?_
            refine we_int ?_
            refine wa_nil ?_
            refine ⟨(by walk_at "size"), ?_⟩
            refine wa_cons ?_
            refine we_tup ?_
            refine wa_cons ?_
            refine we_int ?_
            refine wa_cons ?_
            refine we_int ?_
            refine wa_nil ?_
            refine ⟨(by walk_at "size"), ?_⟩
            refine wa_nil ?_
            refine ⟨_, _, _, _, _, _, rfl, ?_⟩
            exact q
          · walk_at "dead"
        · walk_at "dead"
    | some t =>
      cases u with
      | none =>
        refine ws_if ?_
        refine wt_bool ?_
        refine ww_or ?_
        refine wt_not ?_
        refine wt_val ?_ (by intro _; rfl)
        refine wv 0 rfl ?_
        first
        | refine tr_own hB (hr.mono (by decide)) (.inl rfl) (use_boolS ⟨_, rfl, ?_⟩)
        | refine tr_own hB (hr.mono (by decide)) (.inl rfl) (use_boolN ⟨_, rfl, ?_⟩)
        refine ⟨fun hb => ?_, fun hb => ?_⟩
        · walk_at "dead"
        · walk_at "tidy"
          refine ww_or1 ?_
          refine wt_not ?_
          refine wt_val ?_ (by intro _; rfl)
          refine wv 1 rfl ?_
          first
          | refine tr_own hB (hr.mono (by decide)) (.inl rfl) (use_boolS ⟨_, rfl, ?_⟩)
          | refine tr_own hB (hr.mono (by decide)) (.inl rfl) (use_boolN ⟨_, rfl, ?_⟩)
          refine ⟨fun hb => ?_, fun hb => ?_⟩
          · walk_at "tidy"
            refine ws_ret ?_
            refine wmkS hM (hr.mono (by decide)) ?_
            refine wa_cons ?_
            refine we_tup ?_
            refine wa_cons ?_
            refine we_int ?_
            refine wa_cons ?_
            refine we_int ?_
            refine wa_nil ?_
            refine ⟨(by walk_at "size"), ?_⟩
            refine wa_cons ?_
            refine we_tup ?_
            refine wa_cons ?_
            refine we_int ?_
            refine wa_cons ?_
            refine we_int ?_
            refine wa_nil ?_
            refine ⟨(by walk_at "size"), ?_⟩
            refine wa_cons ?_
            refine we_tup ?_
            refine wa_cons ?_
            refine we_int ?_
            refine wa_cons ?_
            refine we_int ?_
            refine wa_nil ?_
            refine ⟨(by walk_at "size"), ?_⟩
            refine wa_nil ?_
            refine ⟨_, _, _, _, _, _, rfl, ?_⟩
            exact q
          · walk_at "dead"
      | some u =>
        refine ws_if ?_
        refine wt_bool ?_
        refine ww_or ?_
        refine wt_not ?_
        refine wt_val ?_ (by intro _; rfl)
        refine wv 0 rfl ?_
        first
        | refine tr_own hB (hr.mono (by decide)) (.inl rfl) (use_boolS ⟨_, rfl, ?_⟩)
        | refine tr_own hB (hr.mono (by decide)) (.inl rfl) (use_boolN ⟨_, rfl, ?_⟩)
        refine ⟨fun hb => ?_, fun hb => ?_⟩
        · walk_at "dead"
        · walk_at "tidy"
          refine ww_or1 ?_
          refine wt_not ?_
          refine wt_val ?_ (by intro _; rfl)
          refine wv 1 rfl ?_
          first
          | refine tr_own hB (hr.mono (by decide)) (.inl rfl) (use_boolS ⟨_, rfl, ?_⟩)
          | refine tr_own hB (hr.mono (by decide)) (.inl rfl) (use_boolN ⟨_, rfl, ?_⟩)
          refine ⟨fun hb => ?_, fun hb => ?_⟩
          · walk_at "dead"
          · walk_at "tidy"
            refine ws_nil ?_
            refine ws_set 2 sc_Span_and.nd ?_
            refine we_lstO ?_
            refine wa_nil ?_
            refine ⟨(by walk_at "size"), fun l_1 => ?_⟩
            refine wu_Z (by passes_own) B.zip ?_
            refine wa_cons ?_
            refine we_tup ?_
            refine wa_cons ?_
            refine we_attr ?_ (by rfl)
            refine wv 0 rfl ?_
            refine at_fld (.inl rfl) lk_here hS.cls hS.nb ?_
            refine wa_cons ?_
            refine we_attr ?_ (by rfl)
            refine wv 0 rfl ?_
            refine at_fld (.inl rfl) (lk_there (by decide) lk_here) hS.cls hS.np ?_
            refine wa_cons ?_
            refine we_attr ?_ (by rfl)
            refine wv 0 rfl ?_
            refine at_fld (.inl rfl) (lk_there (by decide) (lk_there (by decide) lk_here)) hS.cls hS.ne ?_
            refine wa_nil ?_
            refine ⟨(by walk_at "size"), ?_⟩
            refine wa_cons ?_
            refine we_tup ?_
            refine wa_cons ?_
            refine we_attr ?_ (by rfl)
            refine wv 1 rfl ?_
            refine at_fld (.inl rfl) lk_here hS.cls hS.nb ?_
            refine wa_cons ?_
            refine we_attr ?_ (by rfl)
            refine wv 1 rfl ?_
            refine at_fld (.inl rfl) (lk_there (by decide) lk_here) hS.cls hS.np ?_
            refine wa_cons ?_
            refine we_attr ?_ (by rfl)
            refine wv 1 rfl ?_
            refine at_fld (.inl rfl) (lk_there (by decide) (lk_there (by decide) lk_here)) hS.cls hS.ne ?_
            refine wa_nil ?_
            refine ⟨(by walk_at "size"), ?_⟩
            refine wa_nil ?_
            refine ⟨_, _, rfl, rfl, ?_⟩
            show GD _ _ _ _ _ _
            refine gd_tup rfl ?_ rfl
            refine gds_cons ?_
            refine gd_name 3 sc_Span_and.nd ?_
            refine gds_cons ?_
            refine gd_name 4 sc_Span_and.nd ?_
            refine gds_nil ?_
            refine ws_expr ?_
            refine we_append ?_
            refine wv 2 rfl ?_
            first
            | refine ⟨_, 0, _, rfl, rfl, ?_⟩
            | refine ⟨_, 1, _, rfl, rfl, ?_⟩
            | refine ⟨_, 2, _, rfl, rfl, ?_⟩
            refine we_tup ?_
            refine wa_cons ?_
            refine wcf hG (hr.mono (by decide)) ?_
            refine wa_cons ?_
            refine we_ix ?_ (fun _ _ => rfl)
            refine wv 3 rfl ?_
            refine we_int ?_
            walk_at "ix"
            refine wa_cons ?_
            refine we_ix ?_ (fun _ _ => rfl)
            refine wv 4 rfl ?_
            refine we_int ?_
            walk_at "ix"
            refine wa_nil ?_
            refine use_greater ?_
            refine wa_cons ?_
            refine wcf hL (hr.mono (by decide)) ?_
            refine wa_cons ?_
            refine we_ix ?_ (fun _ _ => rfl)
            refine wv 3 rfl ?_
            refine we_int ?_
            walk_at "ix"
            refine wa_cons ?_
            refine we_ix ?_ (fun _ _ => rfl)
            refine wv 4 rfl ?_
            refine we_int ?_
            walk_at "ix"
            refine wa_nil ?_
            refine use_lesser ?_
            refine wa_nil ?_
            refine ⟨(by walk_at "size"), ?_⟩
            first
            | refine ⟨0, _, rfl, of_decide_eq_true rfl, ?_⟩
            | refine ⟨1, _, rfl, of_decide_eq_true rfl, ?_⟩
            | refine ⟨2, _, rfl, of_decide_eq_true rfl, ?_⟩
            refine ws_nil ?_
            show GD _ _ _ _ _ _
            refine gd_tup rfl ?_ rfl
            refine gds_cons ?_
            refine gd_name 3 sc_Span_and.nd ?_
            refine gds_cons ?_
            refine gd_name 4 sc_Span_and.nd ?_
            refine gds_nil ?_
            refine ws_expr ?_
            refine we_append ?_
            refine wv 2 rfl ?_
            first
            | refine ⟨_, 0, _, rfl, rfl, ?_⟩
            | refine ⟨_, 1, _, rfl, rfl, ?_⟩
            | refine ⟨_, 2, _, rfl, rfl, ?_⟩
            refine we_tup ?_
            refine wa_cons ?_
            refine wcf hG (hr.mono (by decide)) ?_
            refine wa_cons ?_
            refine we_ix ?_ (fun _ _ => rfl)
            refine wv 3 rfl ?_
            refine we_int ?_
            walk_at "ix"
            refine wa_cons ?_
            refine we_ix ?_ (fun _ _ => rfl)
            refine wv 4 rfl ?_
            refine we_int ?_
            walk_at "ix"
            refine wa_nil ?_
            refine use_greater ?_
            refine wa_cons ?_
            refine wcf hL (hr.mono (by decide)) ?_
            refine wa_cons ?_
            refine we_ix ?_ (fun _ _ => rfl)
            refine wv 3 rfl ?_
            refine we_int ?_
            walk_at "ix"
            refine wa_cons ?_
            refine we_ix ?_ (fun _ _ => rfl)
            refine wv 4 rfl ?_
            refine we_int ?_
            walk_at "ix"
            refine wa_nil ?_
            refine use_lesser ?_
            refine wa_nil ?_
            refine ⟨(by walk_at "size"), ?_⟩
            first
            | refine ⟨0, _, rfl, of_decide_eq_true rfl, ?_⟩
            | refine ⟨1, _, rfl, of_decide_eq_true rfl, ?_⟩
            | refine ⟨2, _, rfl, of_decide_eq_true rfl, ?_⟩
            refine ws_nil ?_
            show GD _ _ _ _ _ _
            refine gd_tup rfl ?_ rfl
            refine gds_cons ?_
            refine gd_name 3 sc_Span_and.nd ?_
            refine gds_cons ?_
            refine gd_name 4 sc_Span_and.nd ?_
            refine gds_nil ?_
            refine ws_expr ?_
            refine we_append ?_
            refine wv 2 rfl ?_
            first
            | refine ⟨_, 0, _, rfl, rfl, ?_⟩
            | refine ⟨_, 1, _, rfl, rfl, ?_⟩
            | refine ⟨_, 2, _, rfl, rfl, ?_⟩
            refine we_tup ?_
            refine wa_cons ?_
            refine wcf hG (hr.mono (by decide)) ?_
            refine wa_cons ?_
            refine we_ix ?_ (fun _ _ => rfl)
            refine wv 3 rfl ?_
            refine we_int ?_
            walk_at "ix"
            refine wa_cons ?_
            refine we_ix ?_ (fun _ _ => rfl)
            refine wv 4 rfl ?_
            refine we_int ?_
            walk_at "ix"
            refine wa_nil ?_
            refine use_greater ?_
            refine wa_cons ?_
            refine wcf hL (hr.mono (by decide)) ?_
            refine wa_cons ?_
            refine we_ix ?_ (fun _ _ => rfl)
            refine wv 3 rfl ?_
            refine we_int ?_
            walk_at "ix"
            refine wa_cons ?_
            refine we_ix ?_ (fun _ _ => rfl)
            refine wv 4 rfl ?_
            refine we_int ?_
            walk_at "ix"
            refine wa_nil ?_
            refine use_lesser ?_
            refine wa_nil ?_
            refine ⟨(by walk_at "size"), ?_⟩
            first
            | refine ⟨0, _, rfl, of_decide_eq_true rfl, ?_⟩
            | refine ⟨1, _, rfl, of_decide_eq_true rfl, ?_⟩
            | refine ⟨2, _, rfl, of_decide_eq_true rfl, ?_⟩
            refine ws_nil ?_
            show WS _ _ _ _ _
            refine ws_freeze (i := 2) rfl ?_
            refine ws_ret ?_
            refine wmkS hM (hr.mono (by decide)) ?_
            refine wa_cons ?_
            refine we_ix ?_ (fun _ _ => rfl)
            refine wv 2 rfl ?_
            refine we_int ?_
            walk_at "ix"
            refine wa_cons ?_
            refine we_ix ?_ (fun _ _ => rfl)
            refine wv 2 rfl ?_
            refine we_int ?_
            walk_at "ix"
            refine wa_cons ?_
            refine we_ix ?_ (fun _ _ => rfl)
            refine wv 2 rfl ?_
            refine we_int ?_
            walk_at "ix"
            refine wa_nil ?_
            refine ⟨_, _, _, _, _, _, rfl, ?_⟩
            exact q
end
end Sl57

set_option Elab.async false
set_option linter.all false
set_option maxRecDepth 100000
set_option maxHeartbeats 1000000

namespace Sl57
open PySem PySem.Spec PyProof.Rows L2 Dt
set_option hygiene false
local macro_rules | `(tactic| walk_at "op") => `(tactic| (first
  | refine od_add ?_ | refine od_sub ?_ | refine od_lt ?_ | refine od_le ?_ | refine od_gt ?_ | refine od_ge ?_ | refine od_eq ?_ | refine od_ne ?_ | refine od_is ?_ | refine od_isn ?_
  | refine od_eqS ?_ | refine od_neS ?_ | refine od_eqB ?_ | refine od_neB ?_))
local macro_rules | `(tactic| walk_at "dead") => `(tactic| (first
  | (cases hb; done)
  | (exact absurd (show false = true from hb) (by decide))
  | (exact absurd (show true = false from hb) (by decide))
  | (exact absurd hb (by decide))
  | (exfalso; simp only [decide_eq_true_eq, decide_eq_false_iff_not, Bool.not_eq_true', Bool.not_eq_false'] at hb; omega)))
local macro_rules | `(tactic| walk_at "tidy") => `(tactic| (try simp only [decide_eq_true_eq, decide_eq_false_iff_not, Bool.not_eq_true', Bool.not_eq_false'] at hb))
local macro_rules | `(tactic| walk_at "truth") => `(tactic| (first | refine tr_bl ?_ | refine tr_lst ?_ | refine tr_tup ?_ | refine tr_non ?_ | refine tr_int ?_))
local macro_rules | `(tactic| walk_at "ix") => `(tactic| (first
  | refine ix_tup (j := 0) rfl rfl ?_ | refine ix_tup (j := 1) rfl rfl ?_ | refine ix_tup (j := 2) rfl rfl ?_
  | refine ix_lst (j := 0) rfl rfl ?_ | refine ix_lst (j := 1) rfl rfl ?_ | refine ix_lst (j := 2) rfl rfl ?_
  | refine ix_own (k := 0) (j := 0) rfl rfl rfl ?_
  | refine ix_own (k := 0) (j := 1) rfl rfl rfl ?_
  | refine ix_own (k := 0) (j := 2) rfl rfl rfl ?_
  | refine ix_own (k := 1) (j := 0) rfl rfl rfl ?_
  | refine ix_own (k := 1) (j := 1) rfl rfl rfl ?_
  | refine ix_own (k := 1) (j := 2) rfl rfl rfl ?_
  | refine ix_own (k := 2) (j := 0) rfl rfl rfl ?_
  | refine ix_own (k := 2) (j := 1) rfl rfl rfl ?_
  | refine ix_own (k := 2) (j := 2) rfl rfl rfl ?_
  | refine ix_own (k := 3) (j := 0) rfl rfl rfl ?_
  | refine ix_own (k := 3) (j := 1) rfl rfl rfl ?_
  | refine ix_own (k := 3) (j := 2) rfl rfl rfl ?_
  | refine ix_own (k := 4) (j := 0) rfl rfl rfl ?_
  | refine ix_own (k := 4) (j := 1) rfl rfl rfl ?_
  | refine ix_own (k := 4) (j := 2) rfl rfl rfl ?_
  | refine ix_own (k := 5) (j := 0) rfl rfl rfl ?_
  | refine ix_own (k := 5) (j := 1) rfl rfl rfl ?_
  | refine ix_own (k := 5) (j := 2) rfl rfl rfl ?_
  | refine ix_own (k := 6) (j := 0) rfl rfl rfl ?_
  | refine ix_own (k := 6) (j := 1) rfl rfl rfl ?_
  | refine ix_own (k := 6) (j := 2) rfl rfl rfl ?_
  | refine ix_own (k := 7) (j := 0) rfl rfl rfl ?_
  | refine ix_own (k := 7) (j := 1) rfl rfl rfl ?_
  | refine ix_own (k := 7) (j := 2) rfl rfl rfl ?_
  | refine ix_own (k := 8) (j := 0) rfl rfl rfl ?_
  | refine ix_own (k := 8) (j := 1) rfl rfl rfl ?_
  | refine ix_own (k := 8) (j := 2) rfl rfl rfl ?_
  | refine ix_own (k := 9) (j := 0) rfl rfl rfl ?_
  | refine ix_own (k := 9) (j := 1) rfl rfl rfl ?_
  | refine ix_own (k := 9) (j := 2) rfl rfl rfl ?_
  | refine ix_own (k := 10) (j := 0) rfl rfl rfl ?_
  | refine ix_own (k := 10) (j := 1) rfl rfl rfl ?_
  | refine ix_own (k := 10) (j := 2) rfl rfl rfl ?_
  | refine ix_own (k := 11) (j := 0) rfl rfl rfl ?_
  | refine ix_own (k := 11) (j := 1) rfl rfl rfl ?_
  | refine ix_own (k := 11) (j := 2) rfl rfl rfl ?_
  | refine ix_own (k := 12) (j := 0) rfl rfl rfl ?_
  | refine ix_own (k := 12) (j := 1) rfl rfl rfl ?_
  | refine ix_own (k := 12) (j := 2) rfl rfl rfl ?_
  | refine ix_own (k := 13) (j := 0) rfl rfl rfl ?_
  | refine ix_own (k := 13) (j := 1) rfl rfl rfl ?_
  | refine ix_own (k := 13) (j := 2) rfl rfl rfl ?_))
local macro_rules | `(tactic| walk_at "seti") => `(tactic| (first
  | refine ⟨0, 0, _, _, _, rfl, rfl, rfl, rfl, of_decide_eq_true rfl, ?_⟩
  | refine ⟨0, 1, _, _, _, rfl, rfl, rfl, rfl, of_decide_eq_true rfl, ?_⟩
  | refine ⟨0, 2, _, _, _, rfl, rfl, rfl, rfl, of_decide_eq_true rfl, ?_⟩
  | refine ⟨1, 0, _, _, _, rfl, rfl, rfl, rfl, of_decide_eq_true rfl, ?_⟩
  | refine ⟨1, 1, _, _, _, rfl, rfl, rfl, rfl, of_decide_eq_true rfl, ?_⟩
  | refine ⟨1, 2, _, _, _, rfl, rfl, rfl, rfl, of_decide_eq_true rfl, ?_⟩
  | refine ⟨2, 0, _, _, _, rfl, rfl, rfl, rfl, of_decide_eq_true rfl, ?_⟩
  | refine ⟨2, 1, _, _, _, rfl, rfl, rfl, rfl, of_decide_eq_true rfl, ?_⟩
  | refine ⟨2, 2, _, _, _, rfl, rfl, rfl, rfl, of_decide_eq_true rfl, ?_⟩
  | refine ⟨3, 0, _, _, _, rfl, rfl, rfl, rfl, of_decide_eq_true rfl, ?_⟩
  | refine ⟨3, 1, _, _, _, rfl, rfl, rfl, rfl, of_decide_eq_true rfl, ?_⟩
  | refine ⟨3, 2, _, _, _, rfl, rfl, rfl, rfl, of_decide_eq_true rfl, ?_⟩
  | refine ⟨4, 0, _, _, _, rfl, rfl, rfl, rfl, of_decide_eq_true rfl, ?_⟩
  | refine ⟨4, 1, _, _, _, rfl, rfl, rfl, rfl, of_decide_eq_true rfl, ?_⟩
  | refine ⟨4, 2, _, _, _, rfl, rfl, rfl, rfl, of_decide_eq_true rfl, ?_⟩
  | refine ⟨5, 0, _, _, _, rfl, rfl, rfl, rfl, of_decide_eq_true rfl, ?_⟩
  | refine ⟨5, 1, _, _, _, rfl, rfl, rfl, rfl, of_decide_eq_true rfl, ?_⟩
  | refine ⟨5, 2, _, _, _, rfl, rfl, rfl, rfl, of_decide_eq_true rfl, ?_⟩
  | refine ⟨6, 0, _, _, _, rfl, rfl, rfl, rfl, of_decide_eq_true rfl, ?_⟩
  | refine ⟨6, 1, _, _, _, rfl, rfl, rfl, rfl, of_decide_eq_true rfl, ?_⟩
  | refine ⟨6, 2, _, _, _, rfl, rfl, rfl, rfl, of_decide_eq_true rfl, ?_⟩
  | refine ⟨7, 0, _, _, _, rfl, rfl, rfl, rfl, of_decide_eq_true rfl, ?_⟩
  | refine ⟨7, 1, _, _, _, rfl, rfl, rfl, rfl, of_decide_eq_true rfl, ?_⟩
  | refine ⟨7, 2, _, _, _, rfl, rfl, rfl, rfl, of_decide_eq_true rfl, ?_⟩
  | refine ⟨8, 0, _, _, _, rfl, rfl, rfl, rfl, of_decide_eq_true rfl, ?_⟩
  | refine ⟨8, 1, _, _, _, rfl, rfl, rfl, rfl, of_decide_eq_true rfl, ?_⟩
  | refine ⟨8, 2, _, _, _, rfl, rfl, rfl, rfl, of_decide_eq_true rfl, ?_⟩
  | refine ⟨9, 0, _, _, _, rfl, rfl, rfl, rfl, of_decide_eq_true rfl, ?_⟩
  | refine ⟨9, 1, _, _, _, rfl, rfl, rfl, rfl, of_decide_eq_true rfl, ?_⟩
  | refine ⟨9, 2, _, _, _, rfl, rfl, rfl, rfl, of_decide_eq_true rfl, ?_⟩
  | refine ⟨10, 0, _, _, _, rfl, rfl, rfl, rfl, of_decide_eq_true rfl, ?_⟩
  | refine ⟨10, 1, _, _, _, rfl, rfl, rfl, rfl, of_decide_eq_true rfl, ?_⟩
  | refine ⟨10, 2, _, _, _, rfl, rfl, rfl, rfl, of_decide_eq_true rfl, ?_⟩
  | refine ⟨11, 0, _, _, _, rfl, rfl, rfl, rfl, of_decide_eq_true rfl, ?_⟩
  | refine ⟨11, 1, _, _, _, rfl, rfl, rfl, rfl, of_decide_eq_true rfl, ?_⟩
  | refine ⟨11, 2, _, _, _, rfl, rfl, rfl, rfl, of_decide_eq_true rfl, ?_⟩
  | refine ⟨12, 0, _, _, _, rfl, rfl, rfl, rfl, of_decide_eq_true rfl, ?_⟩
  | refine ⟨12, 1, _, _, _, rfl, rfl, rfl, rfl, of_decide_eq_true rfl, ?_⟩
  | refine ⟨12, 2, _, _, _, rfl, rfl, rfl, rfl, of_decide_eq_true rfl, ?_⟩
  | refine ⟨13, 0, _, _, _, rfl, rfl, rfl, rfl, of_decide_eq_true rfl, ?_⟩
  | refine ⟨13, 1, _, _, _, rfl, rfl, rfl, rfl, of_decide_eq_true rfl, ?_⟩
  | refine ⟨13, 2, _, _, _, rfl, rfl, rfl, rfl, of_decide_eq_true rfl, ?_⟩))
local macro_rules | `(tactic| walk_at "lst") => `(tactic| (first
  | refine cd_list (.inr (.inr ⟨0, _, rfl, rfl⟩)) ?_
  | refine cd_list (.inr (.inr ⟨1, _, rfl, rfl⟩)) ?_
  | refine cd_list (.inr (.inr ⟨2, _, rfl, rfl⟩)) ?_
  | refine cd_list (.inr (.inr ⟨3, _, rfl, rfl⟩)) ?_
  | refine cd_list (.inr (.inr ⟨4, _, rfl, rfl⟩)) ?_
  | refine cd_list (.inr (.inr ⟨5, _, rfl, rfl⟩)) ?_
  | refine cd_list (.inr (.inr ⟨6, _, rfl, rfl⟩)) ?_
  | refine cd_list (.inr (.inr ⟨7, _, rfl, rfl⟩)) ?_
  | refine cd_list (.inr (.inr ⟨8, _, rfl, rfl⟩)) ?_
  | refine cd_list (.inr (.inr ⟨9, _, rfl, rfl⟩)) ?_
  | refine cd_list (.inr (.inr ⟨10, _, rfl, rfl⟩)) ?_
  | refine cd_list (.inr (.inr ⟨11, _, rfl, rfl⟩)) ?_
  | refine cd_list (.inr (.inr ⟨12, _, rfl, rfl⟩)) ?_
  | refine cd_list (.inr (.inr ⟨13, _, rfl, rfl⟩)) ?_))
local macro_rules | `(tactic| walk_at "isi") => `(tactic| (first | refine cd_isi (k := true) rfl (by decide +kernel) ?_ | refine cd_isi (k := false) rfl (by decide +kernel) ?_))
local macro_rules | `(tactic| walk_at "size") => `(tactic| (first
  | exact (show 0 ≤ sizeLine by decide) | exact (show 1 ≤ sizeLine by decide) | exact (show 2 ≤ sizeLine by decide) | exact (show 3 ≤ sizeLine by decide) | exact (show 4 ≤ sizeLine by decide) | exact (show 5 ≤ sizeLine by decide) | exact (show 6 ≤ sizeLine by decide)))

section
variable {P : Program} {w : World} {K : PySem.W.Frag} {mg : Str → Option Value} {base : Heap}
/-! ### the drawing defs -/
def BoxM (n : Nat) (o : MO) : Prop := ∃ g s c : Int, o = .lst [.int g, .int s, .int c] ∧ 0 ≤ g ∧ 0 ≤ s ∧ s < 2 ^ 40 ∧ 0 ≤ c ∧ c ≤ (n : Int)
def S_feed : DS := fun ds M Φ => ∃ (ns : List Int) (k : Nat), ds = [.lst (ns.map .int), .int (k : Int)] ∧ k < 2 ^ 40 ∧ ∀ l o, BoxM 0 o → Φ (.adr l) ((l, o) :: M)
def S_take : DS := fun ds M Φ => ∃ (l : Addr) (k n : Nat) (o : MO) (many : Int), ds = [.adr l, .int many] ∧ M[k]? = some (l, o) ∧ BoxM n o ∧ n < 2 ^ 40 ∧ 0 < many ∧ many < 2 ^ 200 ∧ ∀ r o', 0 ≤ r → r < many → BoxM (n + 1) o' → Φ (.int r) (M.set k (l, o'))
def S_pick : DS := fun ds M Φ => ∃ (l : Addr) (k n : Nat) (o : MO) (xs : List D), (ds = [.adr l, .lst xs] ∨ ds = [.adr l, .tup xs]) ∧ M[k]? = some (l, o) ∧ BoxM n o ∧ n < 2 ^ 40 ∧ 0 < xs.length ∧ xs.length < 2 ^ 40 ∧ ∀ x o', x ∈ xs → BoxM (n + 1) o' → Φ x (M.set k (l, o'))
abbrev s_Lfeed : Stmt := top 14
theorem sc_Lfeed : FnScope ["_law_script", "_law_k", "_law_great", "_law_seed"] ["_law_script", "_law_k"] (defScope s_Lfeed) := ⟨rfl, rfl, rfl, by decide +kernel, rfl, by decide +kernel, by decide +kernel⟩
theorem ok_Lfeed {f : Addr} {fd : FuncData} (F : FunD K "_law_feed" "_law_feed" (defArgs s_Lfeed) (defBody s_Lfeed) (defScope s_Lfeed) [] [] f fd) (B : Bf mg) : FnOk P w K mg base CX0 1 f fd ["_law_script", "_law_k"] (spOf K S_feed) := by
  refine fn_data (k := 0) F sc_Lfeed (fun ds M Φ h => ?_) (fun cdv A outer s H E ds M Φ hr h => ?_)
  · obtain ⟨ns, k, rfl, hk, q⟩ := h
    all_goals rfl
  · obtain ⟨ns, k, rfl, hk, q⟩ := h
    refine ws_set 2 sc_Lfeed.nd ?_
    refine we_bin ?_
    refine we_bin ?_
    refine we_int ?_
    refine wv 1 rfl ?_
    refine od_mulW (mulB ⟨by omega, by omega⟩ ⟨by omega, by omega⟩) ?_
    refine we_int ?_
    walk_at "op"
    refine ws_if ?_
    refine wt_cmp ?_ (nomark _)
    refine wv 1 rfl ?_
    refine wcB B.len boot_len ?_
    refine wa_cons ?_
    refine wv 0 rfl ?_
    refine wa_nil ?_
    first
    | refine cd_len_lst ?_
    | refine cd_len_tup ?_
    walk_at "op"
    refine ⟨_, rfl, ?_⟩
    refine ⟨fun hb => ?_, fun hb => ?_⟩
    · first
      | (walk_at "dead")
      | (
        walk_at "tidy"
        refine ws_set 2 sc_Lfeed.nd ?_
        refine wcB B.abs boot_abs ?_
        refine wa_cons ?_
        refine wcT B.int boot_int ?_
        refine wa_cons ?_
        refine we_ix ?_ (fun _ _ => rfl)
        refine wv 0 rfl ?_
        refine wv 1 rfl ?_
        refine ix_lst (j := k) rfl (getI hb) ?_
        refine wa_nil ?_
        refine cd_int ?_
        refine wa_nil ?_
        refine cd_abs ?_
        refine ws_nil ?_
        refine ws_set 3 sc_Lfeed.nd ?_
        refine we_bin ?_
        refine we_bin ?_
        refine wcT B.int boot_int ?_
        refine wa_cons ?_
        refine we_bin ?_
        refine we_bin ?_
        refine we_bin ?_
        refine we_bin ?_
        refine wcT B.int boot_int ?_
        refine wa_cons ?_
        refine wv 2 rfl ?_
        refine wa_nil ?_
        refine cd_int ?_
        refine we_int ?_
        refine od_mod (by omega) ?_
        refine we_int ?_
        refine od_mulW (mulB ⟨by omega, by omega⟩ ⟨by omega, by omega⟩) ?_
        refine we_bin ?_
        refine we_int ?_
        refine wv 1 rfl ?_
        refine od_mulW (mulB ⟨by omega, by omega⟩ ⟨by omega, by omega⟩) ?_
        walk_at "op"
        refine we_int ?_
        walk_at "op"
        refine wa_nil ?_
        refine cd_int ?_
        refine we_int ?_
        refine od_mod (by omega) ?_
        refine we_int ?_
        walk_at "op"
        refine ws_ret ?_
        refine we_lstO ?_
        refine wa_cons ?_
        refine we_if ?_
        refine wt_cmp ?_ (nomark _)
        refine wv 2 rfl ?_
        refine we_bin ?_
        refine we_int ?_
        refine we_int ?_
        refine od_pow ⟨by decide, by decide, by decide⟩ ?_
        walk_at "op"
        refine ⟨_, rfl, ?_⟩
        refine ⟨fun hb => ?_, fun hb => ?_⟩
        · first
          | (walk_at "dead")
          | (
            walk_at "tidy"
            refine wv 2 rfl ?_
            refine wa_cons ?_
            refine wv 3 rfl ?_
            refine wa_cons ?_
            refine we_int ?_
            refine wa_nil ?_
            refine ⟨(by walk_at "size"), fun l_1 => ?_⟩
            first
            | exact q _ _ ⟨_, _, _, rfl, Int.le_trans (by decide) hb, by omega, by omega, by omega, by omega⟩
            | exact q _ _ ⟨_, _, _, rfl, by omega, by omega, by omega, by omega, by omega⟩)
        · first
          | (walk_at "dead")
          | (
            walk_at "tidy"
            refine we_int ?_
            refine wa_cons ?_
            refine wv 3 rfl ?_
            refine wa_cons ?_
            refine we_int ?_
            refine wa_nil ?_
            refine ⟨(by walk_at "size"), fun l_2 => ?_⟩
            first
            | exact q _ _ ⟨_, _, _, rfl, Int.le_trans (by decide) hb, by omega, by omega, by omega, by omega⟩
            | exact q _ _ ⟨_, _, _, rfl, by omega, by omega, by omega, by omega, by omega⟩))
    · first
      | (walk_at "dead")
      | (
        walk_at "tidy"
        refine ws_if ?_
        refine wt_cmp ?_ (nomark _)
        refine wcB B.len boot_len ?_
        refine wa_cons ?_
        refine wv 0 rfl ?_
        refine wa_nil ?_
        first
        | refine cd_len_lst ?_
        | refine cd_len_tup ?_
        refine we_int ?_
        walk_at "op"
        refine ⟨_, rfl, ?_⟩
        refine ⟨fun hb => ?_, fun hb => ?_⟩
        · first
          | (walk_at "dead")
          | (
            walk_at "tidy"
            refine ws_set 2 sc_Lfeed.nd ?_
            refine we_bin ?_
            refine wv 2 rfl ?_
            refine we_bin ?_
            refine we_bin ?_
            refine wcT B.int boot_int ?_
            refine wa_cons ?_
            refine we_ix ?_ (fun _ _ => rfl)
            refine wv 0 rfl ?_
            refine we_bin ?_
            refine wcT B.int boot_int ?_
            refine wa_cons ?_
            refine wv 1 rfl ?_
            refine wa_nil ?_
            refine cd_int ?_
            refine wcB B.len boot_len ?_
            refine wa_cons ?_
            refine wv 0 rfl ?_
            refine wa_nil ?_
            first
            | refine cd_len_lst ?_
            | refine cd_len_tup ?_
            refine od_mod (by omega) ?_
            refine ix_lst (j := k % (ns.map D.int).length) rfl (getI (by have hz := Nat.mod_lt k (show 0 < (ns.map D.int).length by omega); omega)) ?_
            refine wa_nil ?_
            refine cd_int ?_
            refine we_int ?_
            refine od_mod (by omega) ?_
            refine we_int ?_
            refine od_mulW (mulB ⟨by omega, by omega⟩ ⟨by omega, by omega⟩) ?_
            walk_at "op"
            refine ws_nil ?_
            refine ws_nil ?_
            refine ws_set 3 sc_Lfeed.nd ?_
            refine we_bin ?_
            refine we_bin ?_
            refine wcT B.int boot_int ?_
            refine wa_cons ?_
            refine we_bin ?_
            refine we_bin ?_
            refine we_bin ?_
            refine we_bin ?_
            refine wcT B.int boot_int ?_
            refine wa_cons ?_
            refine wv 2 rfl ?_
            refine wa_nil ?_
            refine cd_int ?_
            refine we_int ?_
            refine od_mod (by omega) ?_
            refine we_int ?_
            refine od_mulW (mulB ⟨by omega, by omega⟩ ⟨by omega, by omega⟩) ?_
            refine we_bin ?_
            refine we_int ?_
            refine wv 1 rfl ?_
            refine od_mulW (mulB ⟨by omega, by omega⟩ ⟨by omega, by omega⟩) ?_
            walk_at "op"
            refine we_int ?_
            walk_at "op"
            refine wa_nil ?_
            refine cd_int ?_
            refine we_int ?_
            refine od_mod (by omega) ?_
            refine we_int ?_
            walk_at "op"
            refine ws_ret ?_
            refine we_lstO ?_
            refine wa_cons ?_
            refine we_if ?_
            refine wt_cmp ?_ (nomark _)
            refine wv 2 rfl ?_
            refine we_bin ?_
            refine we_int ?_
            refine we_int ?_
            refine od_pow ⟨by decide, by decide, by decide⟩ ?_
            walk_at "op"
            refine ⟨_, rfl, ?_⟩
            refine ⟨fun hb => ?_, fun hb => ?_⟩
            · first
              | (walk_at "dead")
              | (
                walk_at "tidy"
                refine wv 2 rfl ?_
                refine wa_cons ?_
                refine wv 3 rfl ?_
                refine wa_cons ?_
                refine we_int ?_
                refine wa_nil ?_
                refine ⟨(by walk_at "size"), fun l_3 => ?_⟩
                first
                | exact q _ _ ⟨_, _, _, rfl, Int.le_trans (by decide) hb, by omega, by omega, by omega, by omega⟩
                | exact q _ _ ⟨_, _, _, rfl, by omega, by omega, by omega, by omega, by omega⟩)
            · first
              | (walk_at "dead")
              | (
                walk_at "tidy"
                refine we_int ?_
                refine wa_cons ?_
                refine wv 3 rfl ?_
                refine wa_cons ?_
                refine we_int ?_
                refine wa_nil ?_
                refine ⟨(by walk_at "size"), fun l_4 => ?_⟩
                first
                | exact q _ _ ⟨_, _, _, rfl, Int.le_trans (by decide) hb, by omega, by omega, by omega, by omega⟩
                | exact q _ _ ⟨_, _, _, rfl, by omega, by omega, by omega, by omega, by omega⟩))
        · first
          | (walk_at "dead")
          | (
            walk_at "tidy"
            refine ws_nil ?_
            refine ws_nil ?_
            refine ws_set 3 sc_Lfeed.nd ?_
            refine we_bin ?_
            refine we_bin ?_
            refine wcT B.int boot_int ?_
            refine wa_cons ?_
            refine we_bin ?_
            refine we_bin ?_
            refine we_bin ?_
            refine we_bin ?_
            refine wcT B.int boot_int ?_
            refine wa_cons ?_
            refine wv 2 rfl ?_
            refine wa_nil ?_
            refine cd_int ?_
            refine we_int ?_
            refine od_mod (by omega) ?_
            refine we_int ?_
            refine od_mulW (mulB ⟨by omega, by omega⟩ ⟨by omega, by omega⟩) ?_
            refine we_bin ?_
            refine we_int ?_
            refine wv 1 rfl ?_
            refine od_mulW (mulB ⟨by omega, by omega⟩ ⟨by omega, by omega⟩) ?_
            walk_at "op"
            refine we_int ?_
            walk_at "op"
            refine wa_nil ?_
            refine cd_int ?_
            refine we_int ?_
            refine od_mod (by omega) ?_
            refine we_int ?_
            walk_at "op"
            refine ws_ret ?_
            refine we_lstO ?_
            refine wa_cons ?_
            refine we_if ?_
            refine wt_cmp ?_ (nomark _)
            refine wv 2 rfl ?_
            refine we_bin ?_
            refine we_int ?_
            refine we_int ?_
            refine od_pow ⟨by decide, by decide, by decide⟩ ?_
            walk_at "op"
            refine ⟨_, rfl, ?_⟩
            refine ⟨fun hb => ?_, fun hb => ?_⟩
            · first
              | (walk_at "dead")
              | (
                walk_at "tidy"
                refine wv 2 rfl ?_
                refine wa_cons ?_
                refine wv 3 rfl ?_
                refine wa_cons ?_
                refine we_int ?_
                refine wa_nil ?_
                refine ⟨(by walk_at "size"), fun l_5 => ?_⟩
                first
                | exact q _ _ ⟨_, _, _, rfl, Int.le_trans (by decide) hb, by omega, by omega, by omega, by omega⟩
                | exact q _ _ ⟨_, _, _, rfl, by omega, by omega, by omega, by omega, by omega⟩)
            · first
              | (walk_at "dead")
              | (
                walk_at "tidy"
                refine we_int ?_
                refine wa_cons ?_
                refine wv 3 rfl ?_
                refine wa_cons ?_
                refine we_int ?_
                refine wa_nil ?_
                refine ⟨(by walk_at "size"), fun l_6 => ?_⟩
                first
                | exact q _ _ ⟨_, _, _, rfl, Int.le_trans (by decide) hb, by omega, by omega, by omega, by omega⟩
                | exact q _ _ ⟨_, _, _, rfl, by omega, by omega, by omega, by omega, by omega⟩)))
abbrev s_Ltake : Stmt := top 15
theorem sc_Ltake : FnScope ["_law_box", "_law_many", "_law_digit", "_law_near"] ["_law_box", "_law_many"] (defScope s_Ltake) := ⟨rfl, rfl, rfl, by decide +kernel, rfl, by decide +kernel, by decide +kernel⟩
theorem ok_Ltake {f : Addr} {fd : FuncData} (F : FunD K "_law_take" "_law_take" (defArgs s_Ltake) (defBody s_Ltake) (defScope s_Ltake) [] [] f fd) (B : Bf mg) : FnOk P w K mg base CX0 1 f fd ["_law_box", "_law_many"] (spOf K S_take) := by
  refine fn_data (k := 0) F sc_Ltake (fun ds M Φ h => ?_) (fun cdv A outer s H E ds M Φ hr h => ?_)
  · obtain ⟨l, k, n, o, many, rfl, hk, ⟨g, s0, c, rfl, hg, hs1, hs2, hc1, hc2⟩, hn, hm1, hm2, q⟩ := h
    all_goals rfl
  · obtain ⟨l, k, n, o, many, rfl, hk, ⟨g, s0, c, rfl, hg, hs1, hs2, hc1, hc2⟩, hn, hm1, hm2, q⟩ := h
    refine ws_if ?_
    refine wt_cmp ?_ (nomark _)
    refine we_ix ?_ (fun _ _ => rfl)
    refine wv 0 rfl ?_
    refine we_int ?_
    first
    | refine ix_own (k := k) (j := 0) hk rfl rfl ?_
    | refine ix_own (k := k) (j := 0) (getset hk) rfl rfl ?_
    refine we_int ?_
    walk_at "op"
    refine ⟨_, rfl, ?_⟩
    refine ⟨fun hb => ?_, fun hb => ?_⟩
    · first
      | (walk_at "dead")
      | (
        walk_at "tidy"
        refine ws_set 2 sc_Ltake.nd ?_
        refine we_bin ?_
        refine wcT B.int boot_int ?_
        refine wa_cons ?_
        refine we_ix ?_ (fun _ _ => rfl)
        refine wv 0 rfl ?_
        refine we_int ?_
        first
        | refine ix_own (k := k) (j := 0) hk rfl rfl ?_
        | refine ix_own (k := k) (j := 0) (getset hk) rfl rfl ?_
        refine wa_nil ?_
        refine cd_int ?_
        refine wv 1 rfl ?_
        first
        | refine od_mod (by omega) ?_
        refine ws_cons (w1_setI ?_ (by exact pg_sub pe_wp pe_wp set_list) rfl rfl rfl)
        refine we_bin ?_
        refine we_ix ?_ (fun _ _ => rfl)
        refine wv 0 rfl ?_
        refine we_int ?_
        first
        | refine ix_own (k := k) (j := 0) hk rfl rfl ?_
        | refine ix_own (k := k) (j := 0) (getset hk) rfl rfl ?_
        refine wv 1 rfl ?_
        refine od_fdivW (wide_div (b := 200) hm1 (by omega) (by decide) (by decide)) ?_
        refine wv 0 rfl ?_
        refine we_int ?_
        refine ⟨k, 0, _, _, _, rfl, rfl, hk, rfl, of_decide_eq_true rfl, ?_⟩
        refine ws_ret ?_
        refine wv 2 rfl ?_
        first
        | exact q _ _ (Int.emod_nonneg _ (by omega)) (Int.emod_lt_of_pos _ hm1) ⟨_, _, _, rfl, Int.ediv_nonneg hg (by omega), by omega, by omega, by omega, by omega⟩
        | exact q _ _ (Int.emod_nonneg _ (by omega)) (Int.emod_lt_of_pos _ hm1) ⟨_, _, _, rfl, hg, by omega, by omega, by omega, by omega⟩)
    · first
      | (walk_at "dead")
      | (
        walk_at "tidy"
        refine ws_nil ?_
        refine ws_cons (w1_setI ?_ (by exact pg_sub pe_wp pe_wp set_list) rfl rfl rfl)
        refine we_bin ?_
        refine we_ix ?_ (fun _ _ => rfl)
        refine wv 0 rfl ?_
        refine we_int ?_
        first
        | refine ix_own (k := k) (j := 2) hk rfl rfl ?_
        | refine ix_own (k := k) (j := 2) (getset hk) rfl rfl ?_
        refine we_int ?_
        walk_at "op"
        refine wv 0 rfl ?_
        refine we_int ?_
        refine ⟨k, 2, _, _, _, rfl, rfl, hk, rfl, of_decide_eq_true rfl, ?_⟩
        refine ws_set 3 sc_Ltake.nd ?_
        refine we_bin ?_
        refine wcT B.int boot_int ?_
        refine wa_cons ?_
        refine we_bin ?_
        refine we_bin ?_
        refine we_ix ?_ (fun _ _ => rfl)
        refine wv 0 rfl ?_
        refine we_int ?_
        first
        | refine ix_own (k := k) (j := 1) hk rfl rfl ?_
        | refine ix_own (k := k) (j := 1) (getset hk) rfl rfl ?_
        refine we_bin ?_
        refine we_int ?_
        refine we_ix ?_ (fun _ _ => rfl)
        refine wv 0 rfl ?_
        refine we_int ?_
        first
        | refine ix_own (k := k) (j := 2) hk rfl rfl ?_
        | refine ix_own (k := k) (j := 2) (getset hk) rfl rfl ?_
        refine od_mulW (mulB ⟨by omega, by omega⟩ ⟨by omega, by omega⟩) ?_
        walk_at "op"
        refine we_int ?_
        refine od_mulW (mulB ⟨by omega, by omega⟩ ⟨by omega, by omega⟩) ?_
        refine wa_nil ?_
        refine cd_int ?_
        refine we_int ?_
        first
        | refine od_mod (by omega) ?_
        refine ws_cons (w1_setI ?_ (by exact pg_sub pe_wp pe_wp set_list) rfl rfl rfl)
        refine we_bin ?_
        refine we_bin ?_
        refine wcT B.int boot_int ?_
        refine wa_cons ?_
        refine we_bin ?_
        refine we_bin ?_
        refine wv 3 rfl ?_
        refine we_int ?_
        refine od_mulW (mulB ⟨by omega, by omega⟩ ⟨by omega, by omega⟩) ?_
        refine we_int ?_
        walk_at "op"
        refine wa_nil ?_
        refine cd_int ?_
        refine we_int ?_
        first
        | refine od_mod (by omega) ?_
        refine we_int ?_
        walk_at "op"
        refine wv 0 rfl ?_
        refine we_int ?_
        refine ⟨k, 1, _, _, _, rfl, rfl, getset hk, rfl, of_decide_eq_true rfl, ?_⟩
        rw [List.set_set]
        refine ws_ret ?_
        refine we_bin ?_
        refine wcT B.int boot_int ?_
        refine wa_cons ?_
        refine we_bin ?_
        refine we_bin ?_
        refine we_bin ?_
        refine wv 3 rfl ?_
        refine we_int ?_
        refine od_mulW (mulB ⟨by omega, by omega⟩ ⟨by omega, by omega⟩) ?_
        refine we_ix ?_ (fun _ _ => rfl)
        refine wv 0 rfl ?_
        refine we_int ?_
        first
        | refine ix_own (k := k) (j := 1) hk rfl rfl ?_
        | refine ix_own (k := k) (j := 1) (getset hk) rfl rfl ?_
        walk_at "op"
        refine we_int ?_
        refine od_fdiv ⟨by decide, by decide⟩ ?_
        refine wa_nil ?_
        refine cd_int ?_
        refine wv 1 rfl ?_
        first
        | refine od_mod (by omega) ?_
        first
        | exact q _ _ (Int.emod_nonneg _ (by omega)) (Int.emod_lt_of_pos _ hm1) ⟨_, _, _, rfl, Int.ediv_nonneg hg (by omega), by omega, by omega, by omega, by omega⟩
        | exact q _ _ (Int.emod_nonneg _ (by omega)) (Int.emod_lt_of_pos _ hm1) ⟨_, _, _, rfl, hg, by omega, by omega, by omega, by omega⟩)
theorem pick_in {xs : List D} {r : Int} (h0 : 0 ≤ r) (h1 : r < (xs.length : Int)) : ∃ (j : Nat) (x : D), r = (j : Int) ∧ xs[j]? = some x ∧ x ∈ xs := by
  have hj : r.toNat < xs.length := by omega
  exact ⟨r.toNat, xs[r.toNat], by omega, List.getElem?_eq_getElem hj, List.getElem_mem hj⟩
abbrev s_Lpick : Stmt := top 16
theorem sc_Lpick : FnScope ["_law_box", "_law_some"] ["_law_box", "_law_some"] (defScope s_Lpick) := ⟨rfl, rfl, rfl, by decide +kernel, rfl, by decide +kernel, by decide +kernel⟩
theorem ok_Lpick {f : Addr} {fd : FuncData} (F : FunD K "_law_pick" "_law_pick" (defArgs s_Lpick) (defBody s_Lpick) (defScope s_Lpick) [] [] f fd) (B : Bf mg) (hTake : HasFn P w K mg base 1 "_law_take" S_take) : FnOk P w K mg base CX0 2 f fd ["_law_box", "_law_some"] (spOf K S_pick) := by
  refine fn_data (k := 1) F sc_Lpick (fun ds M Φ h => ?_) (fun cdv A outer s H E ds M Φ hr h => ?_)
  · obtain ⟨l, k, n, o, xs, rfl | rfl, hk, ho, hn, hx1, hx2, q⟩ := h
    all_goals rfl
  · obtain ⟨l, k, n, o, xs, hd, hk, ho, hn, hx1, hx2, q⟩ := h
    rcases hd with rfl | rfl
    · skip
      refine ws_ret ?_
      refine we_ix ?_ (fun _ _ => rfl)
      refine wv 1 rfl ?_
      refine wcf hTake (hr.mono (by decide)) ?_
      refine wa_cons ?_
      refine wv 0 rfl ?_
      refine wa_cons ?_
      refine wcB B.len boot_len ?_
      refine wa_cons ?_
      refine wv 1 rfl ?_
      refine wa_nil ?_
      first
      | refine cd_len_lst ?_
      | refine cd_len_tup ?_
      refine wa_nil ?_
      refine ⟨l, k, n, o, _, rfl, hk, ho, hn, by omega, by omega, fun r o' h0 h1 ho' => ?_⟩
      obtain ⟨j, x, ej, hj, hx⟩ := pick_in h0 h1
      first
      | refine ix_lst (j := j) ej hj ?_
      | refine ix_tup (j := j) ej hj ?_
      exact q _ _ hx ho'
    · skip
      refine ws_ret ?_
      refine we_ix ?_ (fun _ _ => rfl)
      refine wv 1 rfl ?_
      refine wcf hTake (hr.mono (by decide)) ?_
      refine wa_cons ?_
      refine wv 0 rfl ?_
      refine wa_cons ?_
      refine wcB B.len boot_len ?_
      refine wa_cons ?_
      refine wv 1 rfl ?_
      refine wa_nil ?_
      first
      | refine cd_len_lst ?_
      | refine cd_len_tup ?_
      refine wa_nil ?_
      refine ⟨l, k, n, o, _, rfl, hk, ho, hn, by omega, by omega, fun r o' h0 h1 ho' => ?_⟩
      obtain ⟨j, x, ej, hj, hx⟩ := pick_in h0 h1
      first
      | refine ix_lst (j := j) ej hj ?_
      | refine ix_tup (j := j) ej hj ?_
      exact q _ _ hx ho'
end
end Sl57

set_option Elab.async false
set_option linter.all false
set_option maxRecDepth 100000
set_option maxHeartbeats 1000000

namespace Sl57
open PySem PySem.Spec PyProof.Rows L2 Dt
set_option hygiene false
local macro_rules | `(tactic| walk_at "op") => `(tactic| (first
  | refine od_add ?_ | refine od_sub ?_ | refine od_lt ?_ | refine od_le ?_ | refine od_gt ?_ | refine od_ge ?_ | refine od_eq ?_ | refine od_ne ?_ | refine od_is ?_ | refine od_isn ?_
  | refine od_eqS ?_ | refine od_neS ?_ | refine od_eqB ?_ | refine od_neB ?_))
local macro_rules | `(tactic| walk_at "dead") => `(tactic| (first
  | (cases hb; done)
  | (exact absurd (show false = true from hb) (by decide))
  | (exact absurd (show true = false from hb) (by decide))
  | (exact absurd hb (by decide))
  | (exfalso; simp only [decide_eq_true_eq, decide_eq_false_iff_not, Bool.not_eq_true', Bool.not_eq_false'] at hb; omega)))
local macro_rules | `(tactic| walk_at "tidy") => `(tactic| (try simp only [decide_eq_true_eq, decide_eq_false_iff_not, Bool.not_eq_true', Bool.not_eq_false'] at hb))
local macro_rules | `(tactic| walk_at "truth") => `(tactic| (first | refine tr_bl ?_ | refine tr_lst ?_ | refine tr_tup ?_ | refine tr_non ?_ | refine tr_int ?_))
local macro_rules | `(tactic| walk_at "ix") => `(tactic| (first
  | refine ix_tup (j := 0) rfl rfl ?_ | refine ix_tup (j := 1) rfl rfl ?_ | refine ix_tup (j := 2) rfl rfl ?_
  | refine ix_lst (j := 0) rfl rfl ?_ | refine ix_lst (j := 1) rfl rfl ?_ | refine ix_lst (j := 2) rfl rfl ?_
  | refine ix_own (k := 0) (j := 0) rfl rfl rfl ?_
  | refine ix_own (k := 0) (j := 1) rfl rfl rfl ?_
  | refine ix_own (k := 0) (j := 2) rfl rfl rfl ?_
  | refine ix_own (k := 1) (j := 0) rfl rfl rfl ?_
  | refine ix_own (k := 1) (j := 1) rfl rfl rfl ?_
  | refine ix_own (k := 1) (j := 2) rfl rfl rfl ?_
  | refine ix_own (k := 2) (j := 0) rfl rfl rfl ?_
  | refine ix_own (k := 2) (j := 1) rfl rfl rfl ?_
  | refine ix_own (k := 2) (j := 2) rfl rfl rfl ?_
  | refine ix_own (k := 3) (j := 0) rfl rfl rfl ?_
  | refine ix_own (k := 3) (j := 1) rfl rfl rfl ?_
  | refine ix_own (k := 3) (j := 2) rfl rfl rfl ?_
  | refine ix_own (k := 4) (j := 0) rfl rfl rfl ?_
  | refine ix_own (k := 4) (j := 1) rfl rfl rfl ?_
  | refine ix_own (k := 4) (j := 2) rfl rfl rfl ?_
  | refine ix_own (k := 5) (j := 0) rfl rfl rfl ?_
  | refine ix_own (k := 5) (j := 1) rfl rfl rfl ?_
  | refine ix_own (k := 5) (j := 2) rfl rfl rfl ?_
  | refine ix_own (k := 6) (j := 0) rfl rfl rfl ?_
  | refine ix_own (k := 6) (j := 1) rfl rfl rfl ?_
  | refine ix_own (k := 6) (j := 2) rfl rfl rfl ?_
  | refine ix_own (k := 7) (j := 0) rfl rfl rfl ?_
  | refine ix_own (k := 7) (j := 1) rfl rfl rfl ?_
  | refine ix_own (k := 7) (j := 2) rfl rfl rfl ?_
  | refine ix_own (k := 8) (j := 0) rfl rfl rfl ?_
  | refine ix_own (k := 8) (j := 1) rfl rfl rfl ?_
  | refine ix_own (k := 8) (j := 2) rfl rfl rfl ?_
  | refine ix_own (k := 9) (j := 0) rfl rfl rfl ?_
  | refine ix_own (k := 9) (j := 1) rfl rfl rfl ?_
  | refine ix_own (k := 9) (j := 2) rfl rfl rfl ?_
  | refine ix_own (k := 10) (j := 0) rfl rfl rfl ?_
  | refine ix_own (k := 10) (j := 1) rfl rfl rfl ?_
  | refine ix_own (k := 10) (j := 2) rfl rfl rfl ?_
  | refine ix_own (k := 11) (j := 0) rfl rfl rfl ?_
  | refine ix_own (k := 11) (j := 1) rfl rfl rfl ?_
  | refine ix_own (k := 11) (j := 2) rfl rfl rfl ?_
  | refine ix_own (k := 12) (j := 0) rfl rfl rfl ?_
  | refine ix_own (k := 12) (j := 1) rfl rfl rfl ?_
  | refine ix_own (k := 12) (j := 2) rfl rfl rfl ?_
  | refine ix_own (k := 13) (j := 0) rfl rfl rfl ?_
  | refine ix_own (k := 13) (j := 1) rfl rfl rfl ?_
  | refine ix_own (k := 13) (j := 2) rfl rfl rfl ?_))
local macro_rules | `(tactic| walk_at "seti") => `(tactic| (first
  | refine ⟨0, 0, _, _, _, rfl, rfl, rfl, rfl, of_decide_eq_true rfl, ?_⟩
  | refine ⟨0, 1, _, _, _, rfl, rfl, rfl, rfl, of_decide_eq_true rfl, ?_⟩
  | refine ⟨0, 2, _, _, _, rfl, rfl, rfl, rfl, of_decide_eq_true rfl, ?_⟩
  | refine ⟨1, 0, _, _, _, rfl, rfl, rfl, rfl, of_decide_eq_true rfl, ?_⟩
  | refine ⟨1, 1, _, _, _, rfl, rfl, rfl, rfl, of_decide_eq_true rfl, ?_⟩
  | refine ⟨1, 2, _, _, _, rfl, rfl, rfl, rfl, of_decide_eq_true rfl, ?_⟩
  | refine ⟨2, 0, _, _, _, rfl, rfl, rfl, rfl, of_decide_eq_true rfl, ?_⟩
  | refine ⟨2, 1, _, _, _, rfl, rfl, rfl, rfl, of_decide_eq_true rfl, ?_⟩
  | refine ⟨2, 2, _, _, _, rfl, rfl, rfl, rfl, of_decide_eq_true rfl, ?_⟩
  | refine ⟨3, 0, _, _, _, rfl, rfl, rfl, rfl, of_decide_eq_true rfl, ?_⟩
  | refine ⟨3, 1, _, _, _, rfl, rfl, rfl, rfl, of_decide_eq_true rfl, ?_⟩
  | refine ⟨3, 2, _, _, _, rfl, rfl, rfl, rfl, of_decide_eq_true rfl, ?_⟩
  | refine ⟨4, 0, _, _, _, rfl, rfl, rfl, rfl, of_decide_eq_true rfl, ?_⟩
  | refine ⟨4, 1, _, _, _, rfl, rfl, rfl, rfl, of_decide_eq_true rfl, ?_⟩
  | refine ⟨4, 2, _, _, _, rfl, rfl, rfl, rfl, of_decide_eq_true rfl, ?_⟩
  | refine ⟨5, 0, _, _, _, rfl, rfl, rfl, rfl, of_decide_eq_true rfl, ?_⟩
  | refine ⟨5, 1, _, _, _, rfl, rfl, rfl, rfl, of_decide_eq_true rfl, ?_⟩
  | refine ⟨5, 2, _, _, _, rfl, rfl, rfl, rfl, of_decide_eq_true rfl, ?_⟩
  | refine ⟨6, 0, _, _, _, rfl, rfl, rfl, rfl, of_decide_eq_true rfl, ?_⟩
  | refine ⟨6, 1, _, _, _, rfl, rfl, rfl, rfl, of_decide_eq_true rfl, ?_⟩
  | refine ⟨6, 2, _, _, _, rfl, rfl, rfl, rfl, of_decide_eq_true rfl, ?_⟩
  | refine ⟨7, 0, _, _, _, rfl, rfl, rfl, rfl, of_decide_eq_true rfl, ?_⟩
  | refine ⟨7, 1, _, _, _, rfl, rfl, rfl, rfl, of_decide_eq_true rfl, ?_⟩
  | refine ⟨7, 2, _, _, _, rfl, rfl, rfl, rfl, of_decide_eq_true rfl, ?_⟩
  | refine ⟨8, 0, _, _, _, rfl, rfl, rfl, rfl, of_decide_eq_true rfl, ?_⟩
  | refine ⟨8, 1, _, _, _, rfl, rfl, rfl, rfl, of_decide_eq_true rfl, ?_⟩
  | refine ⟨8, 2, _, _, _, rfl, rfl, rfl, rfl, of_decide_eq_true rfl, ?_⟩
  | refine ⟨9, 0, _, _, _, rfl, rfl, rfl, rfl, of_decide_eq_true rfl, ?_⟩
  | refine ⟨9, 1, _, _, _, rfl, rfl, rfl, rfl, of_decide_eq_true rfl, ?_⟩
  | refine ⟨9, 2, _, _, _, rfl, rfl, rfl, rfl, of_decide_eq_true rfl, ?_⟩
  | refine ⟨10, 0, _, _, _, rfl, rfl, rfl, rfl, of_decide_eq_true rfl, ?_⟩
  | refine ⟨10, 1, _, _, _, rfl, rfl, rfl, rfl, of_decide_eq_true rfl, ?_⟩
  | refine ⟨10, 2, _, _, _, rfl, rfl, rfl, rfl, of_decide_eq_true rfl, ?_⟩
  | refine ⟨11, 0, _, _, _, rfl, rfl, rfl, rfl, of_decide_eq_true rfl, ?_⟩
  | refine ⟨11, 1, _, _, _, rfl, rfl, rfl, rfl, of_decide_eq_true rfl, ?_⟩
  | refine ⟨11, 2, _, _, _, rfl, rfl, rfl, rfl, of_decide_eq_true rfl, ?_⟩
  | refine ⟨12, 0, _, _, _, rfl, rfl, rfl, rfl, of_decide_eq_true rfl, ?_⟩
  | refine ⟨12, 1, _, _, _, rfl, rfl, rfl, rfl, of_decide_eq_true rfl, ?_⟩
  | refine ⟨12, 2, _, _, _, rfl, rfl, rfl, rfl, of_decide_eq_true rfl, ?_⟩
  | refine ⟨13, 0, _, _, _, rfl, rfl, rfl, rfl, of_decide_eq_true rfl, ?_⟩
  | refine ⟨13, 1, _, _, _, rfl, rfl, rfl, rfl, of_decide_eq_true rfl, ?_⟩
  | refine ⟨13, 2, _, _, _, rfl, rfl, rfl, rfl, of_decide_eq_true rfl, ?_⟩))
local macro_rules | `(tactic| walk_at "lst") => `(tactic| (first
  | refine cd_list (.inr (.inr ⟨0, _, rfl, rfl⟩)) ?_
  | refine cd_list (.inr (.inr ⟨1, _, rfl, rfl⟩)) ?_
  | refine cd_list (.inr (.inr ⟨2, _, rfl, rfl⟩)) ?_
  | refine cd_list (.inr (.inr ⟨3, _, rfl, rfl⟩)) ?_
  | refine cd_list (.inr (.inr ⟨4, _, rfl, rfl⟩)) ?_
  | refine cd_list (.inr (.inr ⟨5, _, rfl, rfl⟩)) ?_
  | refine cd_list (.inr (.inr ⟨6, _, rfl, rfl⟩)) ?_
  | refine cd_list (.inr (.inr ⟨7, _, rfl, rfl⟩)) ?_
  | refine cd_list (.inr (.inr ⟨8, _, rfl, rfl⟩)) ?_
  | refine cd_list (.inr (.inr ⟨9, _, rfl, rfl⟩)) ?_
  | refine cd_list (.inr (.inr ⟨10, _, rfl, rfl⟩)) ?_
  | refine cd_list (.inr (.inr ⟨11, _, rfl, rfl⟩)) ?_
  | refine cd_list (.inr (.inr ⟨12, _, rfl, rfl⟩)) ?_
  | refine cd_list (.inr (.inr ⟨13, _, rfl, rfl⟩)) ?_))
local macro_rules | `(tactic| walk_at "isi") => `(tactic| (first | refine cd_isi (k := true) rfl (by decide +kernel) ?_ | refine cd_isi (k := false) rfl (by decide +kernel) ?_))
local macro_rules | `(tactic| walk_at "size") => `(tactic| (first
  | exact (show 0 ≤ sizeLine by decide) | exact (show 1 ≤ sizeLine by decide) | exact (show 2 ≤ sizeLine by decide) | exact (show 3 ≤ sizeLine by decide) | exact (show 4 ≤ sizeLine by decide) | exact (show 5 ≤ sizeLine by decide) | exact (show 6 ≤ sizeLine by decide)))

section
variable {P : Program} {w : World} {K : PySem.W.Frag} {mg : Str → Option Value} {base : Heap}
/-! ### == and the other comparisons -/
def eqB : Option B3 → Option B3 → Bool
  | none, none => true
  | some t, some u => decide ((t.b0 = u.b0 ∧ t.b1 = u.b1) ∧ (t.p0 = u.p0 ∧ t.p1 = u.p1) ∧ t.e0 = u.e0 ∧ t.e1 = u.e1)
  | _, _ => false
theorem eqB_iff {t u : Option B3} : eqB t u = true ↔ t = u := by
  cases t with
  | none =>
    cases u with
    | none => exact ⟨fun _ => rfl, fun _ => rfl⟩
    | some u => exact ⟨fun h => (by cases h), fun h => (by cases h)⟩
  | some t =>
    cases u with
    | none => exact ⟨fun h => (by cases h), fun h => (by cases h)⟩
    | some u =>
      obtain ⟨a1, a2, a3, a4, a5, a6⟩ := t
      obtain ⟨c1, c2, c3, c4, c5, c6⟩ := u
      unfold eqB
      rw [decide_eq_true_eq]
      constructor
      · rintro ⟨⟨h1, h2⟩, ⟨h3, h4⟩, h5, h6⟩
        dsimp only at h1 h2 h3 h4 h5 h6
        rw [h1, h2, h3, h4, h5, h6]
      · intro h
        cases h
        exact ⟨⟨rfl, rfl⟩, ⟨rfl, rfl⟩, rfl, rfl⟩
theorem eqB_self {t : Option B3} : eqB t t = true := eqB_iff.mpr rfl
def S_eq (C : Addr) : DS := fun ds M Φ => ∃ t u : Option B3, ds = [spanD C t, spanD C u] ∧ Φ (.bl (eqB t u)) M
theorem use_eq {C : Addr} {t u : Option B3} {M : Mem} {Φ : VP} (q : Φ (.bl (eqB t u)) M) : S_eq C [spanD C t, spanD C u] M Φ := ⟨t, u, rfl, q⟩
theorem use_lt {C : Addr} {t u : Option B3} {M : Mem} {Φ : VP} (q : Φ (.bl (ltT t u)) M) : S_lt C [spanD C t, spanD C u] M Φ := ⟨t, u, rfl, q⟩
theorem use_ge {C : Addr} {t u : Option B3} {M : Mem} {Φ : VP} (q : Φ (.bl (leT u t)) M) : S_ge C [spanD C t, spanD C u] M Φ := ⟨t, u, rfl, q⟩
theorem use_gt {C : Addr} {t u : Option B3} {M : Mem} {Φ : VP} (q : Φ (.bl (ltT u t)) M) : S_gt C [spanD C t, spanD C u] M Φ := ⟨t, u, rfl, q⟩
def tri : Option B3 → D
  | none => .tup [.non, .non, .non]
  | some t => .tup [tp t.b0 t.b1, tp t.p0 t.p1, tp t.e0 t.e1]
theorem eqv_tri (t u : Option B3) : PyData.eqv (py (tri t)) (py (tri u)) = eqB t u := by
  cases t with
  | none =>
    cases u with
    | none => rfl
    | some u => rfl
  | some t =>
    cases u with
    | none => rfl
    | some u =>
      simp only [tri, py, pys, PyData.eqv, PyData.eqvAll, Bool.and_true, eqB]
      rw [Bool.eq_iff_iff]
      simp only [Bool.and_eq_true, beq_iff_eq, decide_eq_true_eq]
theorem shp_tri (t : Option B3) : shp (tri t) = true := by
  cases t <;> rfl
abbrev s_Span_eq : Stmt := inClass (top 12) 14
theorem sc_Span_eq : FnScope ["self", "other"] ["self", "other"] (defScope s_Span_eq) := ⟨rfl, rfl, rfl, by decide +kernel, rfl, by decide +kernel, by decide +kernel⟩
theorem ok_Span_eq {f : Addr} {fd : FuncData} (F : FunD K "__eq__" "Span.__eq__" (defArgs s_Span_eq) (defBody s_Span_eq) (defScope s_Span_eq) [] [] f fd) (B : Bf mg) {C : Addr} (hS : SpC K C) (hI : IsF K C) (hC : mg "Span" = some (.ref C)) : FnOk P w K mg base CX0 1 f fd ["self", "other"] (spOf K (S_eq C)) := by
  refine fn_data (k := 0) F sc_Span_eq (fun ds M Φ h => ?_) (fun cdv A outer s H E ds M Φ hr h => ?_)
  · obtain ⟨t, u, rfl, q⟩ := h
    all_goals rfl
  · obtain ⟨t, u, rfl, q⟩ := h
    cases t with
    | none =>
      cases u with
      | none =>
        refine ws_if ?_
        refine wt_not ?_
        refine wt_val ?_ (by intro _; rfl)
        refine wcB B.isi boot_isinstance ?_
        refine wa_cons ?_
        refine wv 1 rfl ?_
        refine wa_cons ?_
        refine wgl hC ?_
        refine wa_nil ?_
        refine cd_isiC (.inl rfl) hI kit_self ?_
        walk_at "truth"
        refine ⟨fun hb => ?_, fun hb => ?_⟩
        · walk_at "dead"
        · walk_at "tidy"
          refine ws_nil ?_
          refine ws_ret ?_
          refine we_cmp ?_ (nomark _)
          refine we_tup ?_
          refine wa_cons ?_
          refine we_attr ?_ (by rfl)
          refine wv 0 rfl ?_
          refine at_fld (.inl rfl) lk_here hS.cls hS.nb ?_
          refine wa_cons ?_
          refine we_attr ?_ (by rfl)
          refine wv 0 rfl ?_
          refine at_fld (.inl rfl) (lk_there (by decide) lk_here) hS.cls hS.np ?_
          refine wa_cons ?_
          refine we_attr ?_ (by rfl)
          refine wv 0 rfl ?_
          refine at_fld (.inl rfl) (lk_there (by decide) (lk_there (by decide) lk_here)) hS.cls hS.ne ?_
          refine wa_nil ?_
          refine ⟨(by walk_at "size"), ?_⟩
          refine we_tup ?_
          refine wa_cons ?_
          refine we_attr ?_ (by rfl)
          refine wv 1 rfl ?_
          refine at_fld (.inl rfl) lk_here hS.cls hS.nb ?_
          refine wa_cons ?_
          refine we_attr ?_ (by rfl)
          refine wv 1 rfl ?_
          refine at_fld (.inl rfl) (lk_there (by decide) lk_here) hS.cls hS.np ?_
          refine wa_cons ?_
          refine we_attr ?_ (by rfl)
          refine wv 1 rfl ?_
          refine at_fld (.inl rfl) (lk_there (by decide) (lk_there (by decide) lk_here)) hS.cls hS.ne ?_
          refine wa_nil ?_
          refine ⟨(by walk_at "size"), ?_⟩
          refine od_eqD hr.units (.inl rfl) (.inl rfl) rfl rfl ?_
          first
          | exact q
          | (rw [← eqv_tri] at q; exact q)
      | some u =>
        refine ws_if ?_
        refine wt_not ?_
        refine wt_val ?_ (by intro _; rfl)
        refine wcB B.isi boot_isinstance ?_
        refine wa_cons ?_
        refine wv 1 rfl ?_
        refine wa_cons ?_
        refine wgl hC ?_
        refine wa_nil ?_
        refine cd_isiC (.inl rfl) hI kit_self ?_
        walk_at "truth"
        refine ⟨fun hb => ?_, fun hb => ?_⟩
        · walk_at "dead"
        · walk_at "tidy"
          refine ws_nil ?_
          refine ws_ret ?_
          refine we_cmp ?_ (nomark _)
          refine we_tup ?_
          refine wa_cons ?_
          refine we_attr ?_ (by rfl)
          refine wv 0 rfl ?_
          refine at_fld (.inl rfl) lk_here hS.cls hS.nb ?_
          refine wa_cons ?_
          refine we_attr ?_ (by rfl)
          refine wv 0 rfl ?_
          refine at_fld (.inl rfl) (lk_there (by decide) lk_here) hS.cls hS.np ?_
          refine wa_cons ?_
          refine we_attr ?_ (by rfl)
          refine wv 0 rfl ?_
          refine at_fld (.inl rfl) (lk_there (by decide) (lk_there (by decide) lk_here)) hS.cls hS.ne ?_
          refine wa_nil ?_
          refine ⟨(by walk_at "size"), ?_⟩
          refine we_tup ?_
          refine wa_cons ?_
          refine we_attr ?_ (by rfl)
          refine wv 1 rfl ?_
          refine at_fld (.inl rfl) lk_here hS.cls hS.nb ?_
          refine wa_cons ?_
          refine we_attr ?_ (by rfl)
          refine wv 1 rfl ?_
          refine at_fld (.inl rfl) (lk_there (by decide) lk_here) hS.cls hS.np ?_
          refine wa_cons ?_
          refine we_attr ?_ (by rfl)
          refine wv 1 rfl ?_
          refine at_fld (.inl rfl) (lk_there (by decide) (lk_there (by decide) lk_here)) hS.cls hS.ne ?_
          refine wa_nil ?_
          refine ⟨(by walk_at "size"), ?_⟩
          refine od_eqD hr.units (.inl rfl) (.inl rfl) rfl rfl ?_
          first
          | exact q
          | (rw [← eqv_tri] at q; exact q)
    | some t =>
      cases u with
      | none =>
        refine ws_if ?_
        refine wt_not ?_
        refine wt_val ?_ (by intro _; rfl)
        refine wcB B.isi boot_isinstance ?_
        refine wa_cons ?_
        refine wv 1 rfl ?_
        refine wa_cons ?_
        refine wgl hC ?_
        refine wa_nil ?_
        refine cd_isiC (.inl rfl) hI kit_self ?_
        walk_at "truth"
        refine ⟨fun hb => ?_, fun hb => ?_⟩
        · walk_at "dead"
        · walk_at "tidy"
          refine ws_nil ?_
          refine ws_ret ?_
          refine we_cmp ?_ (nomark _)
          refine we_tup ?_
          refine wa_cons ?_
          refine we_attr ?_ (by rfl)
          refine wv 0 rfl ?_
          refine at_fld (.inl rfl) lk_here hS.cls hS.nb ?_
          refine wa_cons ?_
          refine we_attr ?_ (by rfl)
          refine wv 0 rfl ?_
          refine at_fld (.inl rfl) (lk_there (by decide) lk_here) hS.cls hS.np ?_
          refine wa_cons ?_
          refine we_attr ?_ (by rfl)
          refine wv 0 rfl ?_
          refine at_fld (.inl rfl) (lk_there (by decide) (lk_there (by decide) lk_here)) hS.cls hS.ne ?_
          refine wa_nil ?_
          refine ⟨(by walk_at "size"), ?_⟩
          refine we_tup ?_
          refine wa_cons ?_
          refine we_attr ?_ (by rfl)
          refine wv 1 rfl ?_
          refine at_fld (.inl rfl) lk_here hS.cls hS.nb ?_
          refine wa_cons ?_
          refine we_attr ?_ (by rfl)
          refine wv 1 rfl ?_
          refine at_fld (.inl rfl) (lk_there (by decide) lk_here) hS.cls hS.np ?_
          refine wa_cons ?_
          refine we_attr ?_ (by rfl)
          refine wv 1 rfl ?_
          refine at_fld (.inl rfl) (lk_there (by decide) (lk_there (by decide) lk_here)) hS.cls hS.ne ?_
          refine wa_nil ?_
          refine ⟨(by walk_at "size"), ?_⟩
          refine od_eqD hr.units (.inl rfl) (.inl rfl) rfl rfl ?_
          first
          | exact q
          | (rw [← eqv_tri] at q; exact q)
      | some u =>
        refine ws_if ?_
        refine wt_not ?_
        refine wt_val ?_ (by intro _; rfl)
        refine wcB B.isi boot_isinstance ?_
        refine wa_cons ?_
        refine wv 1 rfl ?_
        refine wa_cons ?_
        refine wgl hC ?_
        refine wa_nil ?_
        refine cd_isiC (.inl rfl) hI kit_self ?_
        walk_at "truth"
        refine ⟨fun hb => ?_, fun hb => ?_⟩
        · walk_at "dead"
        · walk_at "tidy"
          refine ws_nil ?_
          refine ws_ret ?_
          refine we_cmp ?_ (nomark _)
          refine we_tup ?_
          refine wa_cons ?_
          refine we_attr ?_ (by rfl)
          refine wv 0 rfl ?_
          refine at_fld (.inl rfl) lk_here hS.cls hS.nb ?_
          refine wa_cons ?_
          refine we_attr ?_ (by rfl)
          refine wv 0 rfl ?_
          refine at_fld (.inl rfl) (lk_there (by decide) lk_here) hS.cls hS.np ?_
          refine wa_cons ?_
          refine we_attr ?_ (by rfl)
          refine wv 0 rfl ?_
          refine at_fld (.inl rfl) (lk_there (by decide) (lk_there (by decide) lk_here)) hS.cls hS.ne ?_
          refine wa_nil ?_
          refine ⟨(by walk_at "size"), ?_⟩
          refine we_tup ?_
          refine wa_cons ?_
          refine we_attr ?_ (by rfl)
          refine wv 1 rfl ?_
          refine at_fld (.inl rfl) lk_here hS.cls hS.nb ?_
          refine wa_cons ?_
          refine we_attr ?_ (by rfl)
          refine wv 1 rfl ?_
          refine at_fld (.inl rfl) (lk_there (by decide) lk_here) hS.cls hS.np ?_
          refine wa_cons ?_
          refine we_attr ?_ (by rfl)
          refine wv 1 rfl ?_
          refine at_fld (.inl rfl) (lk_there (by decide) (lk_there (by decide) lk_here)) hS.cls hS.ne ?_
          refine wa_nil ?_
          refine ⟨(by walk_at "size"), ?_⟩
          refine od_eqD hr.units (.inl rfl) (.inl rfl) rfl rfl ?_
          first
          | exact q
          | (rw [← eqv_tri] at q; exact q)
abbrev s_Span_lt : Stmt := inClass (top 12) 11
theorem sc_Span_lt : FnScope ["self", "other"] ["self", "other"] (defScope s_Span_lt) := ⟨rfl, rfl, rfl, by decide +kernel, rfl, by decide +kernel, by decide +kernel⟩
theorem ok_Span_lt {f : Addr} {fd : FuncData} (F : FunD K "__lt__" "Span.__lt__" (defArgs s_Span_lt) (defBody s_Span_lt) (defScope s_Span_lt) [] [] f fd) {C : Addr} (hS : SpC K C) (hLe : HasMe P w K mg base 2 C "__le__" (S_le C)) : FnOk P w K mg base CX0 3 f fd ["self", "other"] (spOf K (S_lt C)) := by
  refine fn_data (k := 2) F sc_Span_lt (fun ds M Φ h => ?_) (fun cdv A outer s H E ds M Φ hr h => ?_)
  · obtain ⟨t, u, rfl, q⟩ := h
    all_goals rfl
  · obtain ⟨t, u, rfl, q⟩ := h
    refine ws_ret ?_
    refine we_and ?_
    refine we_cmp ?_ (nomark _)
    refine wv 0 rfl ?_
    refine wv 1 rfl ?_
    refine od_own hLe rfl (fun _ _ => rfl) (hr.mono (by decide)) (.inl rfl) (.inl rfl) (use_le ?_)
    refine ⟨_, rfl, fun hb => ?_, fun hb => ?_⟩
    · first
      | (walk_at "dead")
      | (
        walk_at "tidy"
        refine we_one ?_
        refine wnotv ?_
        refine we_cmp ?_ (nomark _)
        refine wv 1 rfl ?_
        refine wv 0 rfl ?_
        refine od_own hLe rfl (fun _ _ => rfl) (hr.mono (by decide)) (.inl rfl) (.inl rfl) (use_le ?_)
        walk_at "truth"
        first
        | (unfold ltT at q; rw [hb, Bool.true_and] at q; exact q)
        | (unfold ltT at q; rw [hb, Bool.false_and] at q; exact q))
    · first
      | (walk_at "dead")
      | (
        walk_at "tidy"
        first
        | (unfold ltT at q; rw [hb, Bool.true_and] at q; exact q)
        | (unfold ltT at q; rw [hb, Bool.false_and] at q; exact q))
abbrev s_Span_ge : Stmt := inClass (top 12) 12
theorem sc_Span_ge : FnScope ["self", "other"] ["self", "other"] (defScope s_Span_ge) := ⟨rfl, rfl, rfl, by decide +kernel, rfl, by decide +kernel, by decide +kernel⟩
theorem ok_Span_ge {f : Addr} {fd : FuncData} (F : FunD K "__ge__" "Span.__ge__" (defArgs s_Span_ge) (defBody s_Span_ge) (defScope s_Span_ge) [] [] f fd) {C : Addr} (hS : SpC K C) (hLe : HasMe P w K mg base 2 C "__le__" (S_le C)) : FnOk P w K mg base CX0 3 f fd ["self", "other"] (spOf K (S_ge C)) := by
  refine fn_data (k := 2) F sc_Span_ge (fun ds M Φ h => ?_) (fun cdv A outer s H E ds M Φ hr h => ?_)
  · obtain ⟨t, u, rfl, q⟩ := h
    all_goals rfl
  · obtain ⟨t, u, rfl, q⟩ := h
    refine ws_ret ?_
    refine we_cmp ?_ (nomark _)
    refine wv 1 rfl ?_
    refine wv 0 rfl ?_
    refine od_own hLe rfl (fun _ _ => rfl) (hr.mono (by decide)) (.inl rfl) (.inl rfl) (use_le ?_)
    exact q
abbrev s_Span_gt : Stmt := inClass (top 12) 13
theorem sc_Span_gt : FnScope ["self", "other"] ["self", "other"] (defScope s_Span_gt) := ⟨rfl, rfl, rfl, by decide +kernel, rfl, by decide +kernel, by decide +kernel⟩
theorem ok_Span_gt {f : Addr} {fd : FuncData} (F : FunD K "__gt__" "Span.__gt__" (defArgs s_Span_gt) (defBody s_Span_gt) (defScope s_Span_gt) [] [] f fd) {C : Addr} (hS : SpC K C) (hLt : HasMe P w K mg base 3 C "__lt__" (S_lt C)) : FnOk P w K mg base CX0 4 f fd ["self", "other"] (spOf K (S_gt C)) := by
  refine fn_data (k := 3) F sc_Span_gt (fun ds M Φ h => ?_) (fun cdv A outer s H E ds M Φ hr h => ?_)
  · obtain ⟨t, u, rfl, q⟩ := h
    all_goals rfl
  · obtain ⟨t, u, rfl, q⟩ := h
    refine ws_ret ?_
    refine we_cmp ?_ (nomark _)
    refine wv 1 rfl ?_
    refine wv 0 rfl ?_
    refine od_own hLt rfl (fun _ _ => rfl) (hr.mono (by decide)) (.inl rfl) (.inl rfl) (use_lt ?_)
    exact q
end
end Sl57

set_option linter.all false
namespace Sl57
open Dt
/-! ### the plain laws -/
theorem tight_is {b0 b1 p0 p1 e0 e1 c0 c1 c2 c3 c4 c5 : Int} (h : ¬ (b0 > b1 ∨ p0 > p1 ∨ e0 > e1)) (h0 : max b0 (p0 - e1) = c0) (h1 : min b1 (p1 - e0) = c1) (hh : c0 ≤ c1) (h2 : max p0 (c0 + e0) = c2) (h3 : min p1 (c1 + e1) = c3)
    (h4 : max e0 (c2 - c1) = c4) (h5 : min e1 (c3 - c0) = c5) : tight b0 b1 p0 p1 e0 e1 = some ⟨c0, c1, c2, c3, c4, c5⟩ := by
  rw [tight_yes h (by omega), h0, h1, h2, h3, h4, h5]
theorem sol_is {low high add most s : Int} (h : min high (max (low - 1) (most - add)) = s) (hp : (s - low + 1 + (low + s + 2 * add)) % 2 = 1) : 2 * sol low high add most = (s - low + 1) * (low + s + 2 * add) + 2 * ((high - s) * most) := by
  unfold sol
  rw [h, Int.mul_add, half hp]
theorem tot_is {t : B3} {v s1 s2 : Int} (h1 : min t.b1 (max (t.b0 - 1) (t.p1 - t.e1)) = s1) (h2 : min (-t.b0) (max (-t.b1 - 1) (-t.p0 - -t.e0)) = s2)
    (hv : (s1 - t.b0 + 1) * (t.b0 + s1 + 2 * t.e1) + 2 * ((t.b1 - s1) * t.p1) + ((s2 - -t.b1 + 1) * (-t.b1 + s2 + 2 * -t.e0) + 2 * ((-t.b0 - s2) * -t.p0)) + 2 * (t.b1 - t.b0 + 1) = 2 * v) : tot (some t) = v := by
  have a := sol_is h1 (by omega)
  have b := sol_is h2 (by omega)
  show sol t.b0 t.b1 t.e1 t.p1 - -sol (-t.b1) (-t.b0) (-t.e0) (-t.p0) + t.b1 - t.b0 + 1 = v
  omega
section
variable {n e : Int} (hn : 2 ≤ n) (h0 : 0 ≤ e) (h1 : e < n)
def bandB (n e : Int) : B3 := ⟨0, n, 0, n, 0 - e, e⟩
include hn h0 h1
theorem band_is : tight 0 n 0 n (0 - e) e = some (bandB n e) := tight_is (by omega) (by omega) (by omega) (by omega) (by omega) (by omega) (by omega) (by omega)
theorem tot_band : tot (some (bandB n e)) = (n + 1) * (2 * e + 1) - e * (e + 1) := tot_is (t := bandB n e) (s1 := n - e) (s2 := -e) (by show min n (max (0 - 1) (n - e)) = _; omega) (by show min (-0) (max (-n - 1) (-0 - -(0 - e))) = _; omega) (by
  show (n - e - 0 + 1) * (0 + (n - e) + 2 * e) + 2 * ((n - (n - e)) * n) + ((-e - -n + 1) * (-n + -e + 2 * -(0 - e)) + 2 * ((-0 - -e) * -0)) + 2 * (n - 0 + 1) = _
  grind)
def lowB3 (n : Int) : B3 := ⟨0, n, 0, n, 0, n⟩
theorem lower_is (h2 : n < 10000000000000000000000000000000000000000) : tight 0 n 0 n 0 10000000000000000000000000000000000000000 = some (lowB3 n) := tight_is (by omega) (by omega) (by omega) (by omega) (by omega) (by omega) (by omega) (by omega)
theorem tot_lower : tot (some (lowB3 n)) = (n + 1) * (n + 2) / 2 := tot_is (t := lowB3 n) (s1 := 0) (s2 := 0) (by show min n (max (0 - 1) (n - n)) = _; omega) (by show min (-0) (max (-n - 1) (-0 - -0)) = _; omega) (by
  have hh := half (x := n + 1) (y := n + 2) (by omega)
  show (0 - 0 + 1) * (0 + 0 + 2 * n) + 2 * ((n - 0) * n) + ((0 - -n + 1) * (-n + 0 + 2 * -0) + 2 * ((-0 - 0) * -0)) + 2 * (n - 0 + 1) = _
  rw [hh]
  grind)
def farB (n : Int) : B3 := ⟨3, n + 3, 2, n + 5, 0 - 1, n + 2⟩
theorem far_is : stepT (some (lowB3 n)) 3 (0 - 1) 2 = some (farB n) := by
  show tight (0 + 3) (n + 3) (0 + 3 + (0 - 1)) (n + 3 + 2) (0 + (0 - 1)) (n + 2) = _
  exact tight_is (by omega) (by omega) (by omega) (by omega) (by omega) (by omega) (by omega) (by omega)
def seenB (n e : Int) : B3 := ⟨1 - e, n - 1 + e, 1, n - 1, 0 - e, e⟩
theorem seen_is : sightT (some (bandB n e)) (some 1) (some (n - 1)) e = some (seenB n e) := by
  have a : limP (some (bandB n e)) (some 1) (some (n - 1)) = some ⟨max 0 (1 - e), min n (n - 1 + e), 1, n - 1, max (0 - e) (1 - min n (n - 1 + e)), min e (n - 1 - max 0 (1 - e))⟩ := by
    show tight 0 n (max 0 1) (min n (n - 1)) (0 - e) e = _
    exact tight_is (by omega) (by omega) (by omega) (by omega) (by omega) (by omega) (by omega) (by omega)
  unfold sightT
  rw [a]
  show tight (1 - e) (n - 1 + e) 1 (n - 1) (-e) e = _
  exact tight_is (by omega) (by omega) (by omega) (by omega) (by omega) (by omega) (by omega) (by omega)
theorem tot_seen : tot (some (seenB n e)) = (n - 1) * (2 * e + 1) := tot_is (t := seenB n e) (s1 := n - 1 - e) (s2 := -1 - e) (by show min (n - 1 + e) (max (1 - e - 1) (n - 1 - e)) = _; omega) (by show min (-(1 - e)) (max (-(n - 1 + e) - 1) (-1 - -(0 - e))) = _; omega) (by
  show (n - 1 - e - (1 - e) + 1) * (1 - e + (n - 1 - e) + 2 * e) + 2 * ((n - 1 + e - (n - 1 - e)) * (n - 1)) + ((-1 - e - -(n - 1 + e) + 1) * (-(n - 1 + e) + (-1 - e) + 2 * -(0 - e)) + 2 * ((-(1 - e) - (-1 - e)) * -1)) + 2 * (n - 1 + e - (1 - e) + 1) = _
  grind)
theorem full_is : tight 0 n 0 n (0 - n) n = some (bandB n n) := tight_is (by omega) (by omega) (by omega) (by omega) (by omega) (by omega) (by omega) (by omega)
def part1 (n e : Int) : B3 := ⟨e + 1, n, 0, n - e - 1, 0 - n, 0 - e - 1⟩
def part2 (n e : Int) : B3 := ⟨0, n - e - 1, e + 1, n, e + 1, n⟩
theorem less_is : lessT (some (bandB n n)) (some (bandB n e)) = [part1 n e, part2 n e] := by
  have a1 : tight 0 (min n (0 - 1)) 0 n (0 - n) n = none := tight_no (by omega)
  have a2 : tight (max (max 0 0) (n + 1)) n 0 n (0 - n) n = none := tight_no (by omega)
  have a3 : tight (max 0 0) (min n n) 0 (min n (0 - 1)) (0 - n) n = none := tight_no (by omega)
  have a4 : tight (max 0 0) (min n n) (max (max 0 0) (n + 1)) n (0 - n) n = none := tight_no (by omega)
  have a5 : tight (max 0 0) (min n n) (max 0 0) (min n n) (0 - n) (min n (0 - e - 1)) = some (part1 n e) := tight_is (by omega) (by omega) (by omega) (by omega) (by omega) (by omega) (by omega) (by omega)
  have a6 : tight (max 0 0) (min n n) (max 0 0) (min n n) (max (max (0 - n) (0 - e)) (e + 1)) n = some (part2 n e) := tight_is (by omega) (by omega) (by omega) (by omega) (by omega) (by omega) (by omega) (by omega)
  show ([tight 0 (min n (0 - 1)) 0 n (0 - n) n, tight (max (max 0 0) (n + 1)) n 0 n (0 - n) n, tight (max 0 0) (min n n) 0 (min n (0 - 1)) (0 - n) n, tight (max 0 0) (min n n) (max (max 0 0) (n + 1)) n (0 - n) n,
    tight (max 0 0) (min n n) (max 0 0) (min n n) (0 - n) (min n (0 - e - 1)), tight (max 0 0) (min n n) (max 0 0) (min n n) (max (max (0 - n) (0 - e)) (e + 1)) n].filterMap id) = _
  rw [a1, a2, a3, a4, a5, a6]
  rfl
theorem tot_parts : tot (some (part1 n e)) + tot (some (part2 n e)) = (n + 1) * (n + 1) - tot (some (bandB n e)) := by
  have hh := half (x := n - e) (y := n - e + 1) (by omega)
  have a : tot (some (part1 n e)) = (n - e) * (n - e + 1) / 2 := tot_is (t := part1 n e) (s1 := n) (s2 := -n) (by show min n (max (e + 1 - 1) (n - e - 1 - (0 - e - 1))) = _; omega) (by show min (-(e + 1)) (max (-n - 1) (-0 - -(0 - n))) = _; omega) (by
    show (n - (e + 1) + 1) * (e + 1 + n + 2 * (0 - e - 1)) + 2 * ((n - n) * (n - e - 1)) + ((-n - -n + 1) * (-n + -n + 2 * -(0 - n)) + 2 * ((-(e + 1) - -n) * -0)) + 2 * (n - (e + 1) + 1) = _
    rw [hh]
    grind)
  have b : tot (some (part2 n e)) = (n - e) * (n - e + 1) / 2 := tot_is (t := part2 n e) (s1 := 0) (s2 := 0) (by show min (n - e - 1) (max (0 - 1) (n - n)) = _; omega) (by show min (-0) (max (-(n - e - 1) - 1) (-(e + 1) - -(e + 1))) = _; omega) (by
    show (0 - 0 + 1) * (0 + 0 + 2 * n) + 2 * ((n - e - 1 - 0) * n) + ((0 - -(n - e - 1) + 1) * (-(n - e - 1) + 0 + 2 * -(e + 1)) + 2 * ((-0 - 0) * -(e + 1))) + 2 * (n - e - 1 - 0 + 1) = _
    rw [hh]
    grind)
  rw [a, b, tot_band hn h0 h1]
  grind
def singB (n e : Int) : B3 := ⟨n, n, n - e, n + e, 0 - e, e⟩
theorem sing_is : tight n n (0 - n) (3 * n) (0 - e) e = some (singB n e) := tight_is (by omega) (by omega) (by omega) (by omega) (by omega) (by omega) (by omega) (by omega)
theorem tot_sing : tot (some (singB n e)) = 2 * e + 1 := tot_is (t := singB n e) (s1 := n) (s2 := -n) (by show min n (max (n - 1) (n + e - e)) = _; omega) (by show min (-n) (max (-n - 1) (-(n - e) - -(0 - e))) = _; omega) (by
  show (n - n + 1) * (n + n + 2 * e) + 2 * ((n - n) * (n + e)) + ((-n - -n + 1) * (-n + -n + 2 * -(0 - e)) + 2 * ((-n - -n) * -(n - e))) + 2 * (n - n + 1) = _
  grind)
def wideB (n : Int) : B3 := ⟨n, n, 0, 2 * n, 0 - n, n⟩
theorem wide_is : tight n n 0 (2 * n) (0 - n) n = some (wideB n) := tight_is (by omega) (by omega) (by omega) (by omega) (by omega) (by omega) (by omega) (by omega)
theorem le_is : leT (some (singB n e)) (some (wideB n)) = true := leT_yes (by show n ≤ n ∧ n ≤ n ∧ 0 ≤ n - e ∧ n + e ≤ 2 * n ∧ 0 - n ≤ 0 - e ∧ e ≤ n; omega)
theorem none_is : tight 0 n (2 * n + 1) (3 * n) (0 - n) n = none := tight_low (by omega)
theorem at0_is : placesD (some (bandB n e)) 0 = tp 0 e := by
  rw [places_yes (by show 0 ≤ 0 ∧ 0 ≤ n; omega)]
  show tp (max 0 (0 + (0 - e))) (min n (0 + e)) = _
  rw [show max 0 (0 + (0 - e)) = 0 by omega, show min n (0 + e) = e by omega]
theorem atn_is : placesD (some (bandB n e)) n = tp (n - e) n := by
  rw [places_yes (by show 0 ≤ n ∧ n ≤ n; omega)]
  show tp (max 0 (n + (0 - e))) (min n (n + e)) = _
  rw [show max 0 (n + (0 - e)) = n - e by omega, show min n (n + e) = n by omega]
theorem atm_is : placesD (some (bandB n e)) (n + 1) = .non := places_no (by show ¬ (0 ≤ n + 1 ∧ n + 1 ≤ n); omega)
theorem in_is : inSpan (some (bandB n e)) (tp n (n - e - 1)) = false := decide_eq_false (by show ¬ (0 ≤ n ∧ n ≤ n ∧ max 0 (n + (0 - e)) ≤ n - e - 1 ∧ n - e - 1 ≤ min n (n + e)); omega)
end
section
variable {n e : Int} (hn : 2 ≤ n) (h0 : 0 ≤ e) (h1 : e < n) (hb : n < 2 ^ 198)
include hn h0 h1 hb
theorem bd_band : ∀ u, some (bandB n e) = some u → u.bd := fun u h => by cases h; exact ⟨by show -(2 ^ 200) < (0 : Int) ∧ (0 : Int) < 2 ^ 200; omega, by show -(2 ^ 200) < n ∧ n < 2 ^ 200; omega, by show -(2 ^ 200) < (0 : Int) ∧ (0 : Int) < 2 ^ 200; omega, by show -(2 ^ 200) < n ∧ n < 2 ^ 200; omega, by show -(2 ^ 200) < 0 - e ∧ 0 - e < 2 ^ 200; omega, by show -(2 ^ 200) < e ∧ e < 2 ^ 200; omega⟩
theorem bd_low : ∀ u, some (lowB3 n) = some u → u.bd := fun u h => by cases h; exact ⟨by show -(2 ^ 200) < (0 : Int) ∧ (0 : Int) < 2 ^ 200; omega, by show -(2 ^ 200) < n ∧ n < 2 ^ 200; omega, by show -(2 ^ 200) < (0 : Int) ∧ (0 : Int) < 2 ^ 200; omega, by show -(2 ^ 200) < n ∧ n < 2 ^ 200; omega, by show -(2 ^ 200) < (0 : Int) ∧ (0 : Int) < 2 ^ 200; omega, by show -(2 ^ 200) < n ∧ n < 2 ^ 200; omega⟩
theorem bd_seen : ∀ u, some (seenB n e) = some u → u.bd := fun u h => by cases h; exact ⟨by show -(2 ^ 200) < 1 - e ∧ 1 - e < 2 ^ 200; omega, by show -(2 ^ 200) < n - 1 + e ∧ n - 1 + e < 2 ^ 200; omega, by show -(2 ^ 200) < (1 : Int) ∧ (1 : Int) < 2 ^ 200; omega, by show -(2 ^ 200) < n - 1 ∧ n - 1 < 2 ^ 200; omega, by show -(2 ^ 200) < 0 - e ∧ 0 - e < 2 ^ 200; omega, by show -(2 ^ 200) < e ∧ e < 2 ^ 200; omega⟩
theorem bd_sing : ∀ u, some (singB n e) = some u → u.bd := fun u h => by cases h; exact ⟨by show -(2 ^ 200) < n ∧ n < 2 ^ 200; omega, by show -(2 ^ 200) < n ∧ n < 2 ^ 200; omega, by show -(2 ^ 200) < n - e ∧ n - e < 2 ^ 200; omega, by show -(2 ^ 200) < n + e ∧ n + e < 2 ^ 200; omega, by show -(2 ^ 200) < 0 - e ∧ 0 - e < 2 ^ 200; omega, by show -(2 ^ 200) < e ∧ e < 2 ^ 200; omega⟩
theorem bd_parts : (∀ u, some (part1 n e) = some u → u.bd) ∧ ∀ u, some (part2 n e) = some u → u.bd := ⟨fun u h => by cases h; exact ⟨by show -(2 ^ 200) < e + 1 ∧ e + 1 < 2 ^ 200; omega, by show -(2 ^ 200) < n ∧ n < 2 ^ 200; omega, by show -(2 ^ 200) < (0 : Int) ∧ (0 : Int) < 2 ^ 200; omega, by show -(2 ^ 200) < n - e - 1 ∧ n - e - 1 < 2 ^ 200; omega, by show -(2 ^ 200) < 0 - n ∧ 0 - n < 2 ^ 200; omega, by show -(2 ^ 200) < 0 - e - 1 ∧ 0 - e - 1 < 2 ^ 200; omega⟩,
  fun u h => by cases h; exact ⟨by show -(2 ^ 200) < (0 : Int) ∧ (0 : Int) < 2 ^ 200; omega, by show -(2 ^ 200) < n - e - 1 ∧ n - e - 1 < 2 ^ 200; omega, by show -(2 ^ 200) < e + 1 ∧ e + 1 < 2 ^ 200; omega, by show -(2 ^ 200) < n ∧ n < 2 ^ 200; omega, by show -(2 ^ 200) < e + 1 ∧ e + 1 < 2 ^ 200; omega, by show -(2 ^ 200) < n ∧ n < 2 ^ 200; omega⟩⟩
end

end Sl57

set_option linter.all false
namespace Sl57
open Dt
/-! ### spans as sets -/
def boxM (b0 b1 p0 p1 e0 e1 i j : Int) : Prop := b0 ≤ i ∧ i ≤ b1 ∧ p0 ≤ j ∧ j ≤ p1 ∧ e0 ≤ j - i ∧ j - i ≤ e1
def mem (t : B3) (i j : Int) : Prop := boxM t.b0 t.b1 t.p0 t.p1 t.e0 t.e1 i j
def memO : Option B3 → Int → Int → Prop
  | none, _, _ => False
  | some t, i, j => mem t i j
/-- bounds that are reached -/
structure Canon (t : B3) : Prop where
  b : t.b0 ≤ t.b1
  p : t.p0 ≤ t.p1
  e : t.e0 ≤ t.e1
  b0 : t.p0 - t.e1 ≤ t.b0
  b1 : t.b1 ≤ t.p1 - t.e0
  p0 : t.b0 + t.e0 ≤ t.p0
  p1 : t.p1 ≤ t.b1 + t.e1
  e0 : t.p0 - t.b1 ≤ t.e0
  e1 : t.e1 ≤ t.p1 - t.b0
def CanonO (t : Option B3) : Prop := ∀ u, t = some u → Canon u
theorem canon_none : CanonO none := fun u h => by cases h
theorem tight_cases (b0 b1 p0 p1 e0 e1 : Int) : (tight b0 b1 p0 p1 e0 e1 = none ∧ ∀ i j, ¬ boxM b0 b1 p0 p1 e0 e1 i j) ∨ ∃ t, tight b0 b1 p0 p1 e0 e1 = some t ∧ Canon t ∧ ∀ i j, mem t i j ↔ boxM b0 b1 p0 p1 e0 e1 i j := by
  by_cases h : b0 > b1 ∨ p0 > p1 ∨ e0 > e1
  · exact .inl ⟨tight_no h, fun i j z => by unfold boxM at z; omega⟩
  · by_cases h2 : max b0 (p0 - e1) > min b1 (p1 - e0)
    · exact .inl ⟨tight_low h2, fun i j z => by unfold boxM at z; omega⟩
    · refine .inr ⟨_, tight_yes h h2, ?_, ?_⟩
      · constructor <;> dsimp only <;> omega
      · intro i j
        unfold mem boxM
        dsimp only
        omega
theorem canon_tight (b0 b1 p0 p1 e0 e1 : Int) : CanonO (tight b0 b1 p0 p1 e0 e1) := fun u h => by
  rcases tight_cases b0 b1 p0 p1 e0 e1 with ⟨a, _⟩ | ⟨t, a, b, _⟩
  · rw [a] at h; cases h
  · rw [a] at h; cases h; exact b
theorem mem_tight {b0 b1 p0 p1 e0 e1 i j : Int} : memO (tight b0 b1 p0 p1 e0 e1) i j ↔ boxM b0 b1 p0 p1 e0 e1 i j := by
  rcases tight_cases b0 b1 p0 p1 e0 e1 with ⟨a, b⟩ | ⟨t, a, _, b⟩
  · rw [a]; exact ⟨fun z => z.elim, fun z => b i j z⟩
  · rw [a]; exact b i j
/-- each bound is that of a pair -/
theorem Canon.at_b0 {t : B3} (c : Canon t) : ∃ j, mem t t.b0 j := ⟨max t.p0 (t.b0 + t.e0), by obtain ⟨h1, h2, h3, h4, h5, h6, h7, h8, h9⟩ := c; unfold mem boxM; omega⟩
theorem Canon.at_b1 {t : B3} (c : Canon t) : ∃ j, mem t t.b1 j := ⟨max t.p0 (t.b1 + t.e0), by obtain ⟨h1, h2, h3, h4, h5, h6, h7, h8, h9⟩ := c; unfold mem boxM; omega⟩
theorem Canon.at_p0 {t : B3} (c : Canon t) : ∃ i, mem t i t.p0 := ⟨max t.b0 (t.p0 - t.e1), by obtain ⟨h1, h2, h3, h4, h5, h6, h7, h8, h9⟩ := c; unfold mem boxM; omega⟩
theorem Canon.at_p1 {t : B3} (c : Canon t) : ∃ i, mem t i t.p1 := ⟨max t.b0 (t.p1 - t.e1), by obtain ⟨h1, h2, h3, h4, h5, h6, h7, h8, h9⟩ := c; unfold mem boxM; omega⟩
theorem Canon.at_e0 {t : B3} (c : Canon t) : ∃ i, mem t i (i + t.e0) := ⟨max t.b0 (t.p0 - t.e0), by obtain ⟨h1, h2, h3, h4, h5, h6, h7, h8, h9⟩ := c; unfold mem boxM; omega⟩
theorem Canon.at_e1 {t : B3} (c : Canon t) : ∃ i, mem t i (i + t.e1) := ⟨max t.b0 (t.p0 - t.e1), by obtain ⟨h1, h2, h3, h4, h5, h6, h7, h8, h9⟩ := c; unfold mem boxM; omega⟩
theorem leB_iff {t u : B3} (c : Canon t) : leB t u = true ↔ ∀ i j, mem t i j → mem u i j := by
  unfold leB
  rw [decide_eq_true_eq]
  constructor
  · intro h i j z
    unfold mem boxM at z ⊢
    omega
  · intro h
    obtain ⟨j1, z1⟩ := c.at_b0
    obtain ⟨j2, z2⟩ := c.at_b1
    obtain ⟨j3, z3⟩ := c.at_p0
    obtain ⟨j4, z4⟩ := c.at_p1
    obtain ⟨j5, z5⟩ := c.at_e0
    obtain ⟨j6, z6⟩ := c.at_e1
    have y1 := h _ _ z1
    have y2 := h _ _ z2
    have y3 := h _ _ z3
    have y4 := h _ _ z4
    have y5 := h _ _ z5
    have y6 := h _ _ z6
    unfold mem boxM at y1 y2 y3 y4 y5 y6
    omega
theorem leT_iff {t u : Option B3} (c : CanonO t) : leT t u = true ↔ ∀ i j, memO t i j → memO u i j := by
  cases t with
  | none => exact ⟨fun _ i j z => z.elim, fun _ => rfl⟩
  | some t =>
    cases u with
    | none =>
      refine ⟨fun h => (by cases h), fun h => ?_⟩
      obtain ⟨j, z⟩ := (c t rfl).at_b0
      exact (h _ _ z).elim
    | some u => exact leB_iff (c t rfl)
theorem leB_anti {t u : B3} (h1 : leB t u = true) (h2 : leB u t = true) : t = u := by
  unfold leB at h1 h2
  rw [decide_eq_true_eq] at h1 h2
  obtain ⟨a1, a2, a3, a4, a5, a6⟩ := t
  obtain ⟨c1, c2, c3, c4, c5, c6⟩ := u
  dsimp only at h1 h2
  have e1 : a1 = c1 := by omega
  have e2 : a2 = c2 := by omega
  have e3 : a3 = c3 := by omega
  have e4 : a4 = c4 := by omega
  have e5 : a5 = c5 := by omega
  have e6 : a6 = c6 := by omega
  rw [e1, e2, e3, e4, e5, e6]
/-- like sets, like bounds -/
theorem canon_ext {t u : Option B3} (ct : CanonO t) (cu : CanonO u) (h : ∀ i j, memO t i j ↔ memO u i j) : t = u := by
  have h1 := (leT_iff ct (u := u)).mpr fun i j z => (h i j).mp z
  have h2 := (leT_iff cu (u := t)).mpr fun i j z => (h i j).mpr z
  cases t with
  | none =>
    cases u with
    | none => rfl
    | some u => cases h2
  | some t =>
    cases u with
    | none => cases h1
    | some u => rw [leB_anti h1 h2]
theorem tight_self {t : B3} (c : Canon t) : tight t.b0 t.b1 t.p0 t.p1 t.e0 t.e1 = some t := canon_ext (canon_tight _ _ _ _ _ _) (fun u h => by cases h; exact c) fun i j => mem_tight
theorem isSome_iff {t : Option B3} (c : CanonO t) : t.isSome = true ↔ ∃ i j, memO t i j := by
  cases t with
  | none => exact ⟨fun h => (by cases h), fun ⟨_, _, z⟩ => z.elim⟩
  | some t => exact ⟨fun _ => let ⟨j, z⟩ := (c t rfl).at_b0; ⟨_, j, z⟩, fun _ => rfl⟩
/-! ### the operations as those of sets -/
theorem canon_step {t : Option B3} {b lo hi : Int} : CanonO (stepT t b lo hi) := by
  cases t with
  | none => exact canon_none
  | some t => exact canon_tight _ _ _ _ _ _
theorem canon_limP {t : Option B3} {lo hi : Option Int} : CanonO (limP t lo hi) := by
  cases t with
  | none => exact canon_none
  | some t => exact canon_tight _ _ _ _ _ _
theorem canon_blur {t : Option B3} {b : Int} : CanonO (blurT t b) := by
  cases t with
  | none => exact canon_none
  | some t => exact canon_tight _ _ _ _ _ _
theorem canon_and {t u : Option B3} : CanonO (andT t u) := by
  cases t with
  | none => exact canon_none
  | some t =>
    cases u with
    | none => exact canon_none
    | some u => exact canon_tight _ _ _ _ _ _
theorem mem_and {t u : Option B3} {i j : Int} : memO (andT t u) i j ↔ memO t i j ∧ memO u i j := by
  cases t with
  | none => exact ⟨fun z => z.elim, fun z => z.1.elim⟩
  | some t =>
    cases u with
    | none => exact ⟨fun z => z.elim, fun z => z.2.elim⟩
    | some u =>
      refine mem_tight.trans ?_
      show _ ↔ mem t i j ∧ mem u i j
      unfold mem boxM
      omega
/-- steps one by one: the bounds move -/
theorem step_is {t : B3} (c : Canon t) {b lo hi : Int} (h : lo ≤ hi) : stepT (some t) b lo hi = some ⟨t.b0 + b, t.b1 + b, t.p0 + b + lo, t.p1 + b + hi, t.e0 + lo, t.e1 + hi⟩ := by
  obtain ⟨h1, h2, h3, h4, h5, h6, h7, h8, h9⟩ := c
  exact tight_is (by omega) (by omega) (by omega) (by omega) (by omega) (by omega) (by omega) (by omega)
theorem sight_yes {t : B3} (c : Canon t) {lo hi b : Int} (hb : 0 ≤ b) (h : max t.p0 lo ≤ min t.p1 hi) : sightT (some t) (some lo) (some hi) b = some ⟨max t.p0 lo - b, min t.p1 hi + b, max t.p0 lo, min t.p1 hi, -b, b⟩ := by
  obtain ⟨h1, h2, h3, h4, h5, h6, h7, h8, h9⟩ := c
  have a : limP (some t) (some lo) (some hi) = tight t.b0 t.b1 (max t.p0 lo) (min t.p1 hi) t.e0 t.e1 := rfl
  unfold sightT
  rw [a, tight_yes (by omega) (by omega)]
  have e2 : max (max t.p0 lo) (max t.b0 (max t.p0 lo - t.e1) + t.e0) = max t.p0 lo := by omega
  have e3 : min (min t.p1 hi) (min t.b1 (min t.p1 hi - t.e0) + t.e1) = min t.p1 hi := by omega
  rw [e2, e3]
  show tight (max t.p0 lo - b) (min t.p1 hi + b) (max t.p0 lo) (min t.p1 hi) (-b) b = _
  exact tight_is (by omega) (by omega) (by omega) (by omega) (by omega) (by omega) (by omega) (by omega)
theorem sight_no {t : B3} {lo hi b : Int} (h : ¬ max t.p0 lo ≤ min t.p1 hi) : sightT (some t) (some lo) (some hi) b = none := by
  have a : limP (some t) (some lo) (some hi) = tight t.b0 t.b1 (max t.p0 lo) (min t.p1 hi) t.e0 t.e1 := rfl
  unfold sightT
  rw [a, tight_no (by omega)]
  rfl
end Sl57

set_option linter.all false
namespace Sl57
open Dt
/-! ### how many pairs -/
def cnt (f : Int → Int) (lo : Int) : Nat → Int
  | 0 => 0
  | n + 1 => cnt f lo n + f (lo + (n : Int))
theorem cnt_congr {f g : Int → Int} {lo : Int} : ∀ n : Nat, (∀ i, lo ≤ i → i < lo + (n : Int) → f i = g i) → cnt f lo n = cnt g lo n
  | 0, _ => rfl
  | n + 1, h => by
    show cnt f lo n + f (lo + (n : Int)) = cnt g lo n + g (lo + (n : Int))
    rw [cnt_congr n fun i a b => h i a (by omega), h (lo + (n : Int)) (by omega) (by omega)]
theorem cnt_add {f g : Int → Int} {lo : Int} : ∀ n : Nat, cnt (fun i => f i + g i) lo n = cnt f lo n + cnt g lo n
  | 0 => rfl
  | n + 1 => by
    show cnt (fun i => f i + g i) lo n + (f (lo + (n : Int)) + g (lo + (n : Int))) = cnt f lo n + f (lo + (n : Int)) + (cnt g lo n + g (lo + (n : Int)))
    rw [cnt_add n]
    omega
theorem cnt_zero {f : Int → Int} {lo : Int} (n : Nat) (h : ∀ i, lo ≤ i → i < lo + (n : Int) → f i = 0) : cnt f lo n = 0 := by
  induction n with
  | zero => rfl
  | succ n ih =>
    show cnt f lo n + f (lo + (n : Int)) = 0
    rw [ih fun i a b => h i a (by omega), h (lo + (n : Int)) (by omega) (by omega)]
    rfl
theorem cnt_split {f : Int → Int} {lo : Int} (m : Nat) : ∀ n : Nat, cnt f lo (m + n) = cnt f lo m + cnt f (lo + (m : Int)) n
  | 0 => by
    show cnt f lo m = cnt f lo m + 0
    omega
  | n + 1 => by
    show cnt f lo (m + n) + f (lo + ((m + n : Nat) : Int)) = cnt f lo m + (cnt f (lo + (m : Int)) n + f (lo + (m : Int) + (n : Int)))
    rw [cnt_split m n, show lo + ((m + n : Nat) : Int) = lo + (m : Int) + (n : Int) by omega]
    omega
/-- the same over a wider range, where it is nothing outside -/
theorem cnt_wide {f : Int → Int} {lo hi lo' : Int} {n' : Nat} (h1 : lo' ≤ lo) (h0 : lo ≤ hi + 1) (h2 : hi < lo' + (n' : Int)) (h : ∀ i, ¬ (lo ≤ i ∧ i ≤ hi) → f i = 0) : cnt f lo' n' = cnt f lo (hi - lo + 1).toNat := by
  have e : n' = (lo - lo').toNat + ((hi - lo + 1).toNat + (lo' + (n' : Int) - hi - 1).toNat) := by omega
  rw [e, cnt_split, cnt_split, cnt_zero (lo - lo').toNat (fun i a b => h i (by omega)), cnt_zero (lo' + (n' : Int) - hi - 1).toNat (fun i a b => h i (by omega)), show lo' + (((lo - lo').toNat : Nat) : Int) = lo by omega]
  omega
theorem sol_none {low add most : Int} : sol low (low - 1) add most = 0 := by
  unfold sol
  rw [show min (low - 1) (max (low - 1) (most - add)) = low - 1 by omega, show low - 1 - low + 1 = 0 by omega, show low - 1 - (low - 1) = 0 by omega]
  simp
theorem sol_up {low high add most : Int} (h : low ≤ high + 1) : sol low (high + 1) add most = sol low high add most + min (high + 1 + add) most := by
  by_cases c : high + 1 ≤ most - add
  · have a := sol_is (low := low) (high := high + 1) (add := add) (most := most) (s := high + 1) (by omega) (by omega)
    have b := sol_is (low := low) (high := high) (add := add) (most := most) (s := high) (by omega) (by omega)
    rw [show min (high + 1 + add) most = high + 1 + add by omega]
    have z : 2 * sol low (high + 1) add most = 2 * (sol low high add most + (high + 1 + add)) := by
      grind
    omega
  · have a := sol_is (low := low) (high := high + 1) (add := add) (most := most) (s := max (low - 1) (most - add)) (by omega) (by omega)
    have b := sol_is (low := low) (high := high) (add := add) (most := most) (s := max (low - 1) (most - add)) (by omega) (by omega)
    rw [show min (high + 1 + add) most = most by omega]
    generalize max (low - 1) (most - add) = s at a b
    have z : 2 * sol low (high + 1) add most = 2 * (sol low high add most + most) := by
      grind
    omega
theorem sol_down {low high add most : Int} (h : low ≤ high + 1) : sol (low - 1) high add most = sol low high add most + min (low - 1 + add) most := by
  by_cases c : low - 1 ≤ most - add
  · have a := sol_is (low := low - 1) (high := high) (add := add) (most := most) (s := min high (max (low - 1) (most - add))) (by omega) (by omega)
    have b := sol_is (low := low) (high := high) (add := add) (most := most) (s := min high (max (low - 1) (most - add))) (by omega) (by omega)
    rw [show min (low - 1 + add) most = low - 1 + add by omega]
    generalize min high (max (low - 1) (most - add)) = s at a b
    have z : 2 * sol (low - 1) high add most = 2 * (sol low high add most + (low - 1 + add)) := by
      grind
    omega
  · have a := sol_is (low := low - 1) (high := high) (add := add) (most := most) (s := low - 2) (by omega) (by omega)
    have b := sol_is (low := low) (high := high) (add := add) (most := most) (s := low - 1) (by omega) (by omega)
    rw [show min (low - 1 + add) most = most by omega]
    have z : 2 * sol (low - 1) high add most = 2 * (sol low high add most + most) := by
      grind
    omega
theorem tot_cnt0 {p0 p1 e0 e1 lo : Int} : ∀ n : Nat, sol lo (lo + (n : Int) - 1) e1 p1 - -sol (-(lo + (n : Int) - 1)) (-lo) (-e0) (-p0) + (lo + (n : Int) - 1) - lo + 1 = cnt (fun i => min p1 (i + e1) - max p0 (i + e0) + 1) lo n
  | 0 => by
    have a : sol lo (lo + ((0 : Nat) : Int) - 1) e1 p1 = 0 := by
      rw [show lo + ((0 : Nat) : Int) - 1 = lo - 1 by omega]
      exact sol_none
    have b : sol (-(lo + ((0 : Nat) : Int) - 1)) (-lo) (-e0) (-p0) = 0 := by
      rw [show -lo = -(lo + ((0 : Nat) : Int) - 1) - 1 by omega]
      exact sol_none
    rw [a, b]
    show _ = (0 : Int)
    omega
  | n + 1 => by
    have ih := tot_cnt0 (p0 := p0) (p1 := p1) (e0 := e0) (e1 := e1) (lo := lo) n
    have a : sol lo (lo + ((n + 1 : Nat) : Int) - 1) e1 p1 = sol lo (lo + (n : Int) - 1) e1 p1 + min (lo + (n : Int) + e1) p1 := by
      have z := sol_up (low := lo) (high := lo + (n : Int) - 1) (add := e1) (most := p1) (by omega)
      rw [show lo + ((n + 1 : Nat) : Int) - 1 = lo + (n : Int) - 1 + 1 by omega, z, show lo + (n : Int) - 1 + 1 + e1 = lo + (n : Int) + e1 by omega]
    have b : sol (-(lo + ((n + 1 : Nat) : Int) - 1)) (-lo) (-e0) (-p0) = sol (-(lo + (n : Int) - 1)) (-lo) (-e0) (-p0) + min (-(lo + (n : Int)) + -e0) (-p0) := by
      have z := sol_down (low := -(lo + (n : Int) - 1)) (high := -lo) (add := -e0) (most := -p0) (by omega)
      rw [show -(lo + ((n + 1 : Nat) : Int) - 1) = -(lo + (n : Int) - 1) - 1 by omega, z, show -(lo + (n : Int) - 1) - 1 + -e0 = -(lo + (n : Int)) + -e0 by omega]
    show _ = cnt _ lo n + (min p1 (lo + (n : Int) + e1) - max p0 (lo + (n : Int) + e0) + 1)
    rw [← ih, a, b]
    omega
/-- the pairs with one belief -/
def row (b0 b1 p0 p1 e0 e1 i : Int) : Int := if b0 ≤ i ∧ i ≤ b1 then max 0 (min p1 (i + e1) - max p0 (i + e0) + 1) else 0
def rowT : Option B3 → Int → Int
  | none, _ => 0
  | some t, i => row t.b0 t.b1 t.p0 t.p1 t.e0 t.e1 i
theorem row_tight {b0 b1 p0 p1 e0 e1 i : Int} : rowT (tight b0 b1 p0 p1 e0 e1) i = row b0 b1 p0 p1 e0 e1 i := by
  by_cases h : b0 > b1 ∨ p0 > p1 ∨ e0 > e1
  · rw [tight_no h]
    show (0 : Int) = row _ _ _ _ _ _ _
    unfold row
    split <;> omega
  · by_cases h2 : max b0 (p0 - e1) > min b1 (p1 - e0)
    · rw [tight_low h2]
      show (0 : Int) = row _ _ _ _ _ _ _
      unfold row
      split <;> omega
    · rw [tight_yes h h2]
      show row _ _ _ _ _ _ _ = row _ _ _ _ _ _ _
      unfold row
      dsimp only
      split <;> split <;> omega
theorem tot_cnt {t : Option B3} (c : CanonO t) {lo : Int} {n : Nat} (h : ∀ u, t = some u → lo ≤ u.b0 ∧ u.b1 < lo + (n : Int)) : tot t = cnt (rowT t) lo n := by
  cases t with
  | none =>
    rw [cnt_zero (f := rowT none) n fun i _ _ => rfl]
    rfl
  | some t =>
    have ct := c t rfl
    obtain ⟨h1, h2⟩ := h t rfl
    have hb := ct.b
    rw [cnt_wide (f := rowT (some t)) (lo := t.b0) (hi := t.b1) h1 (by omega) h2 (fun i hi => if_neg hi)]
    have z := tot_cnt0 (p0 := t.p0) (p1 := t.p1) (e0 := t.e0) (e1 := t.e1) (lo := t.b0) (t.b1 - t.b0 + 1).toNat
    rw [show t.b0 + (((t.b1 - t.b0 + 1).toNat : Nat) : Int) - 1 = t.b1 by omega] at z
    show sol t.b0 t.b1 t.e1 t.p1 - -sol (-t.b1) (-t.b0) (-t.e0) (-t.p0) + t.b1 - t.b0 + 1 = _
    rw [z]
    refine cnt_congr _ fun i a b => ?_
    show _ = row _ _ _ _ _ _ _
    obtain ⟨g1, g2, g3, g4, g5, g6, g7, g8, g9⟩ := ct
    unfold row
    rw [if_pos (by omega)]
    omega
/-! ### what is left -/
theorem split_b {b0 b1 c0 c1 p0 p1 e0 e1 i : Int} (h : c0 ≤ c1) : row b0 b1 p0 p1 e0 e1 i = row b0 (min b1 (c0 - 1)) p0 p1 e0 e1 i + row (max (max b0 c0) (c1 + 1)) b1 p0 p1 e0 e1 i + row (max b0 c0) (min b1 c1) p0 p1 e0 e1 i := by
  unfold row
  by_cases h1 : b0 ≤ i ∧ i ≤ b1
  · rw [if_pos h1]
    by_cases h2 : i < c0
    · rw [if_pos (by omega), if_neg (by omega), if_neg (by omega)]
      omega
    · by_cases h3 : c1 < i
      · rw [if_neg (by omega), if_pos (by omega), if_neg (by omega)]
        omega
      · rw [if_neg (by omega), if_neg (by omega), if_pos (by omega)]
        omega
  · rw [if_neg h1, if_neg (by omega), if_neg (by omega), if_neg (by omega)]
    omega
theorem seg {A B c0 c1 : Int} (h : c0 ≤ c1) : max 0 (B - A + 1) = max 0 (min B (c0 - 1) - A + 1) + max 0 (B - max (max A c0) (c1 + 1) + 1) + max 0 (min B c1 - max A c0 + 1) := by
  by_cases h1 : B < A
  · rw [show max 0 (B - A + 1) = 0 by omega, show max 0 (min B (c0 - 1) - A + 1) = 0 by omega, show max 0 (B - max (max A c0) (c1 + 1) + 1) = 0 by omega, show max 0 (min B c1 - max A c0 + 1) = 0 by omega]
    rfl
  · by_cases h2 : A < c0
    · by_cases h3 : B < c0
      · rw [show max 0 (B - max (max A c0) (c1 + 1) + 1) = 0 by omega, show max 0 (min B c1 - max A c0 + 1) = 0 by omega]
        omega
      · by_cases h4 : c1 < B
        · omega
        · omega
    · by_cases h4 : c1 < A
      · rw [show max 0 (min B (c0 - 1) - A + 1) = 0 by omega, show max 0 (min B c1 - max A c0 + 1) = 0 by omega]
        omega
      · omega
theorem split_p {b0 b1 c0 c1 p0 p1 e0 e1 i : Int} (h : c0 ≤ c1) : row b0 b1 p0 p1 e0 e1 i = row b0 b1 p0 (min p1 (c0 - 1)) e0 e1 i + row b0 b1 (max (max p0 c0) (c1 + 1)) p1 e0 e1 i + row b0 b1 (max p0 c0) (min p1 c1) e0 e1 i := by
  unfold row
  by_cases h1 : b0 ≤ i ∧ i ≤ b1
  · rw [if_pos h1, if_pos h1, if_pos h1, if_pos h1, seg (A := max p0 (i + e0)) (B := min p1 (i + e1)) h, show min (min p1 (c0 - 1)) (i + e1) = min (min p1 (i + e1)) (c0 - 1) by omega,
      show max (max (max p0 c0) (c1 + 1)) (i + e0) = max (max (max p0 (i + e0)) c0) (c1 + 1) by omega, show min (min p1 c1) (i + e1) = min (min p1 (i + e1)) c1 by omega, show max (max p0 c0) (i + e0) = max (max p0 (i + e0)) c0 by omega]
  · rw [if_neg h1, if_neg h1, if_neg h1, if_neg h1]
    rfl
theorem split_e {b0 b1 c0 c1 p0 p1 e0 e1 i : Int} (h : c0 ≤ c1) : row b0 b1 p0 p1 e0 e1 i = row b0 b1 p0 p1 e0 (min e1 (c0 - 1)) i + row b0 b1 p0 p1 (max (max e0 c0) (c1 + 1)) e1 i + row b0 b1 p0 p1 (max e0 c0) (min e1 c1) i := by
  unfold row
  by_cases h1 : b0 ≤ i ∧ i ≤ b1
  · rw [if_pos h1, if_pos h1, if_pos h1, if_pos h1, seg (A := max p0 (i + e0)) (B := min p1 (i + e1)) (show i + c0 ≤ i + c1 by omega), show min p1 (i + min e1 (c0 - 1)) = min (min p1 (i + e1)) (i + c0 - 1) by omega,
      show max p0 (i + max (max e0 c0) (c1 + 1)) = max (max (max p0 (i + e0)) (i + c0)) (i + c1 + 1) by omega, show min p1 (i + min e1 c1) = min (min p1 (i + e1)) (i + c1) by omega, show max p0 (i + max e0 c0) = max (max p0 (i + e0)) (i + c0) by omega]
  · rw [if_neg h1, if_neg h1, if_neg h1, if_neg h1]
    rfl
def sumTot (L : List B3) : Int := (L.map fun t => tot (some t)).sum
theorem sumTot_filter : ∀ L : List (Option B3), sumTot (L.filterMap id) = (L.map tot).sum
  | [] => rfl
  | none :: L => by
    have ih := sumTot_filter L
    show sumTot (L.filterMap id) = 0 + (L.map tot).sum
    rw [ih]
    omega
  | some t :: L => by
    have ih := sumTot_filter L
    show tot (some t) + sumTot (L.filterMap id) = tot (some t) + (L.map tot).sum
    rw [ih]
theorem row_cands {t u : B3} (c : Canon u) {i : Int} : rowT (some t) i = ((cands t u).map fun x => rowT x i).sum + rowT (andT (some t) (some u)) i := by
  have a := split_b (b0 := t.b0) (b1 := t.b1) (p0 := t.p0) (p1 := t.p1) (e0 := t.e0) (e1 := t.e1) (i := i) c.b
  have b := split_p (b0 := max t.b0 u.b0) (b1 := min t.b1 u.b1) (p0 := t.p0) (p1 := t.p1) (e0 := t.e0) (e1 := t.e1) (i := i) c.p
  have d := split_e (b0 := max t.b0 u.b0) (b1 := min t.b1 u.b1) (p0 := max t.p0 u.p0) (p1 := min t.p1 u.p1) (e0 := t.e0) (e1 := t.e1) (i := i) c.e
  unfold cands andT
  simp only [List.map_cons, List.map_nil, row_tight, List.sum_cons, List.sum_nil]
  show row t.b0 t.b1 t.p0 t.p1 t.e0 t.e1 i = _
  rw [a, b, d]
  omega
theorem tight_in {b0 b1 p0 p1 e0 e1 : Int} {u : B3} (h : tight b0 b1 p0 p1 e0 e1 = some u) : b0 ≤ u.b0 ∧ u.b1 ≤ b1 ∧ p0 ≤ u.p0 ∧ u.p1 ≤ p1 ∧ e0 ≤ u.e0 ∧ u.e1 ≤ e1 := by
  by_cases h1 : b0 > b1 ∨ p0 > p1 ∨ e0 > e1
  · rw [tight_no h1] at h; cases h
  · by_cases h2 : max b0 (p0 - e1) > min b1 (p1 - e0)
    · rw [tight_low h2] at h; cases h
    · rw [tight_yes h1 h2] at h
      cases h
      dsimp only
      omega
theorem cands_in {t u x : B3} (h : some x ∈ cands t u) : t.b0 ≤ x.b0 ∧ x.b1 ≤ t.b1 ∧ t.p0 ≤ x.p0 ∧ x.p1 ≤ t.p1 ∧ t.e0 ≤ x.e0 ∧ x.e1 ≤ t.e1 := by
  unfold cands at h
  simp only [List.mem_cons, List.not_mem_nil, or_false] at h
  rcases h with h | h | h | h | h | h <;> (have z := tight_in h.symm; omega)
theorem cnt_list {lo : Int} {n : Nat} : ∀ L : List (Option B3), (L.map fun x => cnt (rowT x) lo n).sum = cnt (fun i => (L.map fun x => rowT x i).sum) lo n
  | [] => (cnt_zero n fun i _ _ => rfl).symm
  | x :: L => by
    have ih := cnt_list (lo := lo) (n := n) L
    show cnt (rowT x) lo n + (L.map fun x => cnt (rowT x) lo n).sum = cnt (fun i => rowT x i + (L.map fun x => rowT x i).sum) lo n
    rw [ih, cnt_add]
theorem canon_cands {t u : B3} {x : Option B3} (h : x ∈ cands t u) : CanonO x := by
  unfold cands at h
  simp only [List.mem_cons, List.not_mem_nil, or_false] at h
  rcases h with h | h | h | h | h | h <;> (rw [h]; exact canon_tight _ _ _ _ _ _)
theorem list_map_congr {f g : Option B3 → Int} : ∀ L : List (Option B3), (∀ x, x ∈ L → f x = g x) → (L.map f).sum = (L.map g).sum
  | [], _ => rfl
  | x :: L, h => by
    show f x + (L.map f).sum = g x + (L.map g).sum
    rw [h x List.mem_cons_self, list_map_congr L fun y hy => h y (List.mem_cons_of_mem _ hy)]
/-- sizes add up -/
theorem less_tot {t u : Option B3} (ct : CanonO t) (cu : CanonO u) : sumTot (lessT t u) + tot (andT t u) = tot t := by
  cases t with
  | none => rfl
  | some t =>
    cases u with
    | none =>
      show tot (some t) + 0 + 0 = tot (some t)
      omega
    | some u =>
      show sumTot ((cands t u).filterMap id) + _ = _
      rw [sumTot_filter]
      have hb := (ct t rfl).b
      have hN : ∀ x, x ∈ cands t u → tot x = cnt (rowT x) t.b0 (t.b1 - t.b0 + 1).toNat := fun x hx => tot_cnt (canon_cands hx) fun v hv => by
        subst hv
        have z := cands_in hx
        omega
      rw [list_map_congr _ hN, cnt_list, tot_cnt (canon_and (t := some t) (u := some u)) (lo := t.b0) (n := (t.b1 - t.b0 + 1).toNat) (fun v hv => by
        have z := tight_in (show tight (max t.b0 u.b0) (min t.b1 u.b1) (max t.p0 u.p0) (min t.p1 u.p1) (max t.e0 u.e0) (min t.e1 u.e1) = some v from hv)
        omega), tot_cnt ct (lo := t.b0) (n := (t.b1 - t.b0 + 1).toNat) (fun v hv => by cases hv; omega), ← cnt_add]
      exact cnt_congr _ fun i _ _ => (row_cands (cu u rfl)).symm
/-- the parts are those pairs that are not in the other one -/
theorem mem_cands {t u : B3} {i j : Int} (c : Canon u) : (∃ x, x ∈ cands t u ∧ memO x i j) ↔ mem t i j ∧ ¬ mem u i j := by
  have hb := c.b
  have hp := c.p
  have he := c.e
  constructor
  · rintro ⟨x, hx, hm⟩
    unfold cands at hx
    simp only [List.mem_cons, List.not_mem_nil, or_false] at hx
    rcases hx with h | h | h | h | h | h <;> (rw [h] at hm; have z := mem_tight.mp hm; unfold mem boxM at *; omega)
  · intro ⟨h1, h2⟩
    have h1' := h1
    unfold mem boxM at h1' h2
    have key : i < u.b0 ∨ u.b1 < i ∨ (u.b0 ≤ i ∧ i ≤ u.b1 ∧ j < u.p0) ∨ (u.b0 ≤ i ∧ i ≤ u.b1 ∧ u.p1 < j) ∨ (u.b0 ≤ i ∧ i ≤ u.b1 ∧ u.p0 ≤ j ∧ j ≤ u.p1 ∧ j - i < u.e0) ∨ (u.b0 ≤ i ∧ i ≤ u.b1 ∧ u.p0 ≤ j ∧ j ≤ u.p1 ∧ u.e1 < j - i) := by omega
    unfold cands
    rcases key with k | k | k | k | k | k
    · exact ⟨_, .head _, mem_tight.mpr (by unfold boxM; omega)⟩
    · exact ⟨_, .tail _ (.head _), mem_tight.mpr (by unfold boxM; omega)⟩
    · exact ⟨_, .tail _ (.tail _ (.head _)), mem_tight.mpr (by unfold boxM; omega)⟩
    · exact ⟨_, .tail _ (.tail _ (.tail _ (.head _))), mem_tight.mpr (by unfold boxM; omega)⟩
    · exact ⟨_, .tail _ (.tail _ (.tail _ (.tail _ (.head _)))), mem_tight.mpr (by unfold boxM; omega)⟩
    · exact ⟨_, .tail _ (.tail _ (.tail _ (.tail _ (.tail _ (.head _))))), mem_tight.mpr (by unfold boxM; omega)⟩
theorem mem_less {t u : Option B3} {i j : Int} (c : CanonO u) : (∃ x, x ∈ lessT t u ∧ mem x i j) ↔ memO t i j ∧ ¬ memO u i j := by
  cases t with
  | none => exact ⟨fun ⟨x, hx, _⟩ => (by cases hx), fun ⟨z, _⟩ => z.elim⟩
  | some t =>
    cases u with
    | none =>
      refine ⟨fun ⟨x, hx, hm⟩ => ?_, fun ⟨z, _⟩ => ⟨t, .head _, z⟩⟩
      have e : x = t := by simpa [lessT] using hx
      subst e
      exact ⟨hm, fun z => z.elim⟩
    | some u =>
      refine Iff.trans ⟨fun ⟨x, hx, hm⟩ => ?_, fun ⟨x, hx, hm⟩ => ?_⟩ (mem_cands (c u rfl))
      · exact ⟨some x, by obtain ⟨y, hy, e⟩ := List.mem_filterMap.mp hx; rw [← e]; exact hy, hm⟩
      · cases x with
        | none => exact hm.elim
        | some x => exact ⟨x, List.mem_filterMap.mpr ⟨some x, hx, rfl⟩, hm⟩
theorem canon_less {t u : Option B3} (c : CanonO t) : ∀ x, x ∈ lessT t u → Canon x := fun x hx => by
  cases t with
  | none => cases hx
  | some t =>
    cases u with
    | none =>
      have e : x = t := by simpa [lessT] using hx
      subst e
      exact c x rfl
    | some u =>
      obtain ⟨y, hy, e⟩ := List.mem_filterMap.mp hx
      exact canon_cands hy x e
end Sl57

set_option linter.all false
namespace Sl57
open Dt
/-! ### lists of pairs -/
theorem sorted_ext {α : Type} {lt : α → α → Prop} (irr : ∀ a, ¬ lt a a) (asym : ∀ a b, lt a b → lt b a → False) : ∀ {as bs : List α}, as.Pairwise lt → bs.Pairwise lt → (∀ x, x ∈ as ↔ x ∈ bs) → as = bs
  | [], [], _, _, _ => rfl
  | [], b :: bs, _, _, h => by
    have z := (h b).mpr List.mem_cons_self
    cases z
  | a :: as, [], _, _, h => by
    have z := (h a).mp List.mem_cons_self
    cases z
  | a :: as, b :: bs, ha, hb, h => by
    obtain ⟨ha1, ha2⟩ := List.pairwise_cons.mp ha
    obtain ⟨hb1, hb2⟩ := List.pairwise_cons.mp hb
    have e : a = b := by
      rcases List.mem_cons.mp ((h a).mp List.mem_cons_self) with z | z
      · exact z
      · rcases List.mem_cons.mp ((h b).mpr List.mem_cons_self) with y | y
        · exact y.symm
        · exact (asym _ _ (ha1 b y) (hb1 a z)).elim
    subst e
    rw [sorted_ext irr asym ha2 hb2 fun x => ?_]
    constructor
    · intro z
      rcases List.mem_cons.mp ((h x).mp (List.mem_cons_of_mem _ z)) with y | y
      · subst y
        exact (irr _ (ha1 x z)).elim
      · exact y
    · intro z
      rcases List.mem_cons.mp ((h x).mpr (List.mem_cons_of_mem _ z)) with y | y
      · subst y
        exact (irr _ (hb1 x z)).elim
      · exact y
def lex (a b : Int × Int) : Prop := a.1 < b.1 ∨ (a.1 = b.1 ∧ a.2 < b.2)
theorem lex_ext {as bs : List (Int × Int)} (ha : as.Pairwise lex) (hb : bs.Pairwise lex) (h : ∀ i j, (i, j) ∈ as ↔ (i, j) ∈ bs) : as = bs :=
  sorted_ext (fun a h => by unfold lex at h; omega) (fun a b h1 h2 => by unfold lex at h1 h2; omega) ha hb fun x => h x.1 x.2
theorem mem_rr {lo hi i : Int} : i ∈ rr lo hi ↔ lo ≤ i ∧ i ≤ hi := by
  unfold rr
  rw [List.mem_map]
  constructor
  · rintro ⟨k, hk, rfl⟩
    rw [List.mem_range] at hk
    omega
  · intro h
    exact ⟨(i - lo).toNat, List.mem_range.mpr (by omega), by omega⟩
theorem sort_rr {lo hi : Int} : (rr lo hi).Pairwise (· < ·) := by
  unfold rr
  rw [List.pairwise_map]
  exact List.pairwise_lt_range.imp fun h => by omega
theorem len_rr {lo hi : Int} : (rr lo hi).length = (hi - lo + 1).toNat := by
  unfold rr
  rw [List.length_map, List.length_range]
/-- rows, one behind the other -/
theorem sort_rows {L : List Int} {f : Int → List (Int × Int)} (hL : L.Pairwise (· < ·)) (hf : ∀ i, i ∈ L → (f i).Pairwise lex) (h1 : ∀ i x, i ∈ L → x ∈ f i → x.1 = i) : (L.flatMap f).Pairwise lex := by
  induction L with
  | nil => exact List.Pairwise.nil
  | cons a L ih =>
    obtain ⟨hL1, hL2⟩ := List.pairwise_cons.mp hL
    rw [List.flatMap_cons, List.pairwise_append]
    refine ⟨hf a List.mem_cons_self, ih hL2 (fun i hi => hf i (List.mem_cons_of_mem _ hi)) (fun i x hi hx => h1 i x (List.mem_cons_of_mem _ hi) hx), fun x hx y hy => ?_⟩
    obtain ⟨i, hi, hy⟩ := List.mem_flatMap.mp hy
    have e1 := h1 a x List.mem_cons_self hx
    have e2 := h1 i y (List.mem_cons_of_mem _ hi) hy
    have := hL1 i hi
    exact .inl (by omega)
def rowL (t : B3) (i : Int) : List (Int × Int) := (rr (max t.p0 (i + t.e0)) (min t.p1 (i + t.e1))).map fun j => (i, j)
def listL : Option B3 → List (Int × Int)
  | none => []
  | some t => (rr t.b0 t.b1).flatMap (rowL t)
def cellL (e0 e1 i j : Int) : List (Int × Int) := if e0 ≤ j - i ∧ j - i ≤ e1 then [(i, j)] else []
def allL (b0 b1 p0 p1 e0 e1 : Int) : List (Int × Int) := (rr b0 b1).flatMap fun i => (rr p0 p1).flatMap fun j => cellL e0 e1 i j
theorem mem_rowL {t : B3} {i : Int} {x : Int × Int} : x ∈ rowL t i ↔ x.1 = i ∧ max t.p0 (i + t.e0) ≤ x.2 ∧ x.2 ≤ min t.p1 (i + t.e1) := by
  unfold rowL
  rw [List.mem_map]
  constructor
  · rintro ⟨j, hj, rfl⟩
    exact ⟨rfl, mem_rr.mp hj⟩
  · rintro ⟨rfl, h⟩
    exact ⟨x.2, mem_rr.mpr h, rfl⟩
theorem mem_listL {t : Option B3} {i j : Int} : (i, j) ∈ listL t ↔ memO t i j := by
  cases t with
  | none => exact ⟨fun h => (by cases h), fun h => h.elim⟩
  | some t =>
    show (i, j) ∈ (rr t.b0 t.b1).flatMap (rowL t) ↔ mem t i j
    rw [List.mem_flatMap]
    unfold mem boxM
    constructor
    · rintro ⟨a, ha, hx⟩
      have h1 := mem_rr.mp ha
      have h2 := mem_rowL.mp hx
      dsimp only at h2
      omega
    · intro h
      exact ⟨i, mem_rr.mpr (by omega), mem_rowL.mpr (by dsimp only; omega)⟩
theorem sort_listL {t : Option B3} : (listL t).Pairwise lex := by
  cases t with
  | none => exact List.Pairwise.nil
  | some t =>
    refine sort_rows sort_rr (fun i _ => ?_) (fun i x _ hx => (mem_rowL.mp hx).1)
    unfold rowL
    rw [List.pairwise_map]
    exact sort_rr.imp fun h => .inr ⟨rfl, h⟩
theorem mem_cellL {e0 e1 i j : Int} {x : Int × Int} : x ∈ cellL e0 e1 i j ↔ x = (i, j) ∧ e0 ≤ j - i ∧ j - i ≤ e1 := by
  unfold cellL
  split
  · rename_i h
    rw [List.mem_singleton]
    exact ⟨fun e => ⟨e, h⟩, fun e => e.1⟩
  · rename_i h
    exact ⟨fun e => (by cases e), fun e => absurd e.2 h⟩
theorem mem_allL {b0 b1 p0 p1 e0 e1 i j : Int} : (i, j) ∈ allL b0 b1 p0 p1 e0 e1 ↔ boxM b0 b1 p0 p1 e0 e1 i j := by
  unfold allL boxM
  rw [List.mem_flatMap]
  constructor
  · rintro ⟨a, ha, hx⟩
    obtain ⟨c, hc, hx⟩ := List.mem_flatMap.mp hx
    obtain ⟨e, h⟩ := mem_cellL.mp hx
    cases e
    have h1 := mem_rr.mp ha
    have h2 := mem_rr.mp hc
    omega
  · intro h
    exact ⟨i, mem_rr.mpr (by omega), List.mem_flatMap.mpr ⟨j, mem_rr.mpr (by omega), mem_cellL.mpr ⟨rfl, by omega⟩⟩⟩
theorem sort_cells {e0 e1 i : Int} : ∀ L : List Int, L.Pairwise (· < ·) → (L.flatMap fun j => cellL e0 e1 i j).Pairwise lex
  | [], _ => List.Pairwise.nil
  | a :: L, h => by
    obtain ⟨h1, h2⟩ := List.pairwise_cons.mp h
    rw [List.flatMap_cons, List.pairwise_append]
    refine ⟨?_, sort_cells L h2, fun x hx y hy => ?_⟩
    · unfold cellL
      split
      · exact List.pairwise_singleton _ _
      · exact List.Pairwise.nil
    · obtain ⟨c, hc, hy⟩ := List.mem_flatMap.mp hy
      obtain ⟨ex, _⟩ := mem_cellL.mp hx
      obtain ⟨ey, _⟩ := mem_cellL.mp hy
      rw [ex, ey]
      exact .inr ⟨rfl, h1 c hc⟩
theorem sort_allL {b0 b1 p0 p1 e0 e1 : Int} : (allL b0 b1 p0 p1 e0 e1).Pairwise lex := by
  refine sort_rows sort_rr (fun i _ => sort_cells _ sort_rr) (fun i x _ hx => ?_)
  obtain ⟨c, hc, hx⟩ := List.mem_flatMap.mp hx
  rw [(mem_cellL.mp hx).1]
/-- the span of bounds lists the pairs of the bounds -/
theorem list_tight {b0 b1 p0 p1 e0 e1 : Int} : listL (tight b0 b1 p0 p1 e0 e1) = allL b0 b1 p0 p1 e0 e1 := lex_ext sort_listL sort_allL fun i j => by rw [mem_listL, mem_allL, mem_tight]
theorem list_and {t u : Option B3} : listL (andT t u) = (listL t).filter fun x => decide (x ∈ listL u) := by
  refine lex_ext sort_listL (sort_listL.filter _) fun i j => ?_
  rw [mem_listL, mem_and, List.mem_filter, decide_eq_true_eq, mem_listL, mem_listL]
theorem len_flat {f : Int → List (Int × Int)} {lo : Int} : ∀ n : Nat, ((((List.range n).map fun k : Nat => lo + ((k : Nat) : Int)).flatMap f).length : Int) = cnt (fun i => ((f i).length : Int)) lo n
  | 0 => rfl
  | n + 1 => by
    rw [List.range_succ, List.map_append, List.flatMap_append, List.length_append]
    have ih := len_flat (f := f) (lo := lo) n
    show ((_ + _ : Nat) : Int) = cnt _ lo n + ((f (lo + (n : Int))).length : Int)
    rw [← ih]
    simp
theorem len_list {t : Option B3} (c : CanonO t) : ((listL t).length : Int) = tot t := by
  cases t with
  | none => rfl
  | some t =>
    have ct := c t rfl
    have hb := ct.b
    rw [tot_cnt c (lo := t.b0) (n := (t.b1 - t.b0 + 1).toNat) (fun u hu => by cases hu; omega)]
    show ((((List.range (t.b1 - t.b0 + 1).toNat).map fun k : Nat => t.b0 + (k : Int)).flatMap (rowL t)).length : Int) = _
    rw [len_flat]
    refine cnt_congr _ fun i h1 h2 => ?_
    show ((rowL t i).length : Int) = row _ _ _ _ _ _ _
    unfold rowL row
    rw [List.length_map, len_rr, if_pos (by omega)]
    omega
theorem len_parts (L : List B3) (c : ∀ x, x ∈ L → Canon x) : (((L.flatMap fun x => listL (some x)).length : Nat) : Int) = sumTot L := by
  induction L with
  | nil => rfl
  | cons x L ih =>
    rw [List.flatMap_cons, List.length_append]
    have h1 := len_list (t := some x) (fun u hu => by cases hu; exact c x List.mem_cons_self)
    have h2 := ih fun y hy => c y (List.mem_cons_of_mem _ hy)
    show (((_ + _ : Nat)) : Int) = tot (some x) + sumTot L
    omega
theorem len_less {t u : Option B3} (ct : CanonO t) (cu : CanonO u) : ((lessT t u).flatMap fun x => listL (some x)).length = ((listL t).filter fun x => !decide (x ∈ listL u)).length := by
  have h1 := len_parts (lessT t u) (canon_less ct)
  have h2 := less_tot ct cu
  have h3 := len_list ct
  have h4 := len_list (canon_and (t := t) (u := u))
  rw [list_and] at h4
  have h5 : (listL t).length = ((listL t).filter fun x => decide (x ∈ listL u)).length + ((listL t).filter fun x => !decide (x ∈ listL u)).length := by
    induction listL t with
    | nil => rfl
    | cons x L ih =>
      rw [List.filter_cons, List.filter_cons, List.length_cons]
      split
      · rename_i z
        rw [if_neg (by rw [z]; decide), List.length_cons]
        omega
      · rename_i z
        rw [if_pos (by rw [Bool.not_eq_true] at z; rw [z]; rfl), List.length_cons]
        omega
  omega
end Sl57

set_option linter.all false
namespace Sl57
open Dt
/-! ### law k31: the rules -/
def B3.sm (B : Int) (t : B3) : Prop := -B ≤ t.b0 ∧ t.b1 ≤ B ∧ -B ≤ t.p0 ∧ t.p1 ≤ B ∧ -B ≤ t.e0 ∧ t.e1 ≤ B
def SmO (B : Int) (t : Option B3) : Prop := ∀ u, t = some u → u.sm B
theorem sm_tight {B b0 b1 p0 p1 e0 e1 : Int} (h0 : -B ≤ b0) (h1 : b1 ≤ B) (h2 : -B ≤ p0) (h3 : p1 ≤ B) (h4 : -B ≤ e0) (h5 : e1 ≤ B) : SmO B (tight b0 b1 p0 p1 e0 e1) := fun u hu => by
  have z := tight_in hu
  unfold B3.sm
  omega
theorem Canon.bd {t : B3} {B : Int} (c : Canon t) (h : t.sm B) (hB : B < 2 ^ 199) : t.bd := by
  have h1 := c.b
  have h2 := c.p
  have h3 := c.e
  unfold B3.sm at h
  unfold B3.bd Bd
  omega
theorem sm_and {B : Int} {t u : Option B3} (h : SmO B t) : SmO B (andT t u) := fun v hv => by
  cases t with
  | none => cases hv
  | some t =>
    cases u with
    | none => cases hv
    | some u =>
      have z := tight_in (show tight (max t.b0 u.b0) (min t.b1 u.b1) (max t.p0 u.p0) (min t.p1 u.p1) (max t.e0 u.e0) (min t.e1 u.e1) = some v from hv)
      have y := h t rfl
      unfold B3.sm at y ⊢
      omega
theorem sm_less {B : Int} {t u : Option B3} (h : SmO B t) : ∀ x, x ∈ lessT t u → x.sm B := fun x hx => by
  cases t with
  | none => cases hx
  | some t =>
    cases u with
    | none =>
      have e : x = t := by simpa [lessT] using hx
      subst e
      exact h x rfl
    | some u =>
      obtain ⟨y, hy, e⟩ := List.mem_filterMap.mp hx
      cases y with
      | none => cases e
      | some y =>
        cases e
        have z := cands_in hy
        have w := h t rfl
        unfold B3.sm at w ⊢
        omega
theorem less_len {t u : Option B3} : (lessT t u).length ≤ 6 := by
  cases t with
  | none => exact Nat.zero_le _
  | some t =>
    cases u with
    | none => exact (show 1 ≤ 6 by decide)
    | some u => exact List.length_filterMap_le id (cands t u)
section
variable {p q r : Option B3} {b lo hi s : Int}
theorem step_step (c : CanonO p) (h : lo ≤ hi) : stepT (stepT p b lo hi) 1 (0 - 1) 2 = stepT p (b + 1) (lo - 1) (hi + 2) := by
  cases p with
  | none => rfl
  | some t =>
    have c1 := c t rfl
    have c2 := canon_step (t := some t) (b := b) (lo := lo) (hi := hi) _ (step_is c1 h)
    rw [step_is c1 h, step_is c2 (by omega), step_is c1 (by omega)]
    simp only [Option.some.injEq, B3.mk.injEq]
    omega
theorem step_back (c : CanonO p) : stepT (stepT p b 0 0) (0 - b) 0 0 = p := by
  cases p with
  | none => rfl
  | some t =>
    have c1 := c t rfl
    have c2 := canon_step (t := some t) (b := b) (lo := 0) (hi := 0) _ (step_is c1 (by omega))
    rw [step_is c1 (by omega), step_is c2 (by omega)]
    obtain ⟨a1, a2, a3, a4, a5, a6⟩ := t
    simp only [Option.some.injEq, B3.mk.injEq]
    omega
theorem step_zero (c : CanonO p) : stepT p 0 0 0 = p := by
  cases p with
  | none => rfl
  | some t =>
    rw [step_is (c t rfl) (by omega)]
    obtain ⟨a1, a2, a3, a4, a5, a6⟩ := t
    simp only [Option.some.injEq, B3.mk.injEq]
    omega
theorem le_step (c : CanonO p) (h0 : lo ≤ 0) (h1 : 0 ≤ hi) : leT p (stepT p 0 lo hi) = true := by
  cases p with
  | none => rfl
  | some t =>
    rw [step_is (c t rfl) (by omega)]
    exact leT_yes (by dsimp only; omega)
theorem and_step (cp : CanonO p) (cq : CanonO q) (h : lo ≤ hi) : leT (stepT (andT p q) b lo hi) (andT (stepT p b lo hi) (stepT q b lo hi)) = true := by
  refine (leT_iff canon_step).mpr fun i j z => mem_and.mpr ?_
  cases p with
  | none => exact z.elim
  | some t =>
    cases q with
    | none => exact z.elim
    | some u =>
      cases e : andT (some t) (some u) with
      | none =>
        rw [e] at z
        exact z.elim
      | some v =>
        have cv := canon_and _ e
        have y := tight_in (show tight (max t.b0 u.b0) (min t.b1 u.b1) (max t.p0 u.p0) (min t.p1 u.p1) (max t.e0 u.e0) (min t.e1 u.e1) = some v from e)
        rw [e, step_is cv h] at z
        rw [step_is (cp t rfl) h, step_is (cq u rfl) h]
        have z2 : boxM (v.b0 + b) (v.b1 + b) (v.p0 + b + lo) (v.p1 + b + hi) (v.e0 + lo) (v.e1 + hi) i j := z
        show boxM (t.b0 + b) (t.b1 + b) (t.p0 + b + lo) (t.p1 + b + hi) (t.e0 + lo) (t.e1 + hi) i j ∧ boxM (u.b0 + b) (u.b1 + b) (u.p0 + b + lo) (u.p1 + b + hi) (u.e0 + lo) (u.e1 + hi) i j
        unfold boxM at z2 ⊢
        omega
theorem canon_sight {l h : Option Int} : CanonO (sightT p l h b) := canon_blur
theorem sight_sight (c : CanonO p) (hb : 0 ≤ b) : sightT (sightT p (some lo) (some hi) b) (some lo) (some hi) 0 = sightT p (some lo) (some hi) 0 := by
  cases p with
  | none => rfl
  | some t =>
    have c1 := c t rfl
    by_cases h : max t.p0 lo ≤ min t.p1 hi
    · have c2 := canon_sight (p := some t) (l := some lo) (h := some hi) (b := b) _ (sight_yes c1 hb h)
      rw [sight_yes c1 hb h, sight_yes c2 (by omega) (by dsimp only; omega), sight_yes c1 (by omega) h]
      dsimp only
      rw [show max (max t.p0 lo) lo = max t.p0 lo by omega, show min (min t.p1 hi) hi = min t.p1 hi by omega]
    · rw [sight_no h, sight_no h]
      rfl
theorem sight_le (c : CanonO p) (hb : 0 ≤ b) : leT (sightT p (some lo) (some hi) b) (sightT p (some (lo - 1)) (some hi) (b + 1)) = true := by
  cases p with
  | none => rfl
  | some t =>
    have c1 := c t rfl
    by_cases h : max t.p0 lo ≤ min t.p1 hi
    · rw [sight_yes c1 hb h, sight_yes c1 (by omega) (by omega)]
      exact leT_yes (by dsimp only; omega)
    · rw [sight_no h]
      rfl
theorem and_and : andT (andT p q) r = andT p (andT q r) := canon_ext canon_and canon_and fun i j => by
  rw [mem_and, mem_and, mem_and, mem_and, and_assoc]
theorem and_self_ (c : CanonO p) : andT p p = p := canon_ext canon_and c fun i j => by rw [mem_and, and_self]
theorem le_and (c : CanonO p) : leT p q = eqB (andT p q) p := by
  rw [Bool.eq_iff_iff, eqB_iff, leT_iff c]
  constructor
  · intro h
    exact canon_ext canon_and c fun i j => by
      rw [mem_and]
      exact ⟨fun z => z.1, fun z => ⟨z, h i j z⟩⟩
  · intro h i j z
    rw [← h] at z
    exact (mem_and.mp z).2
theorem le_less (cp : CanonO p) (cq : CanonO q) : leT p q = (lessT p q).isEmpty := by
  rw [Bool.eq_iff_iff, leT_iff cp, List.isEmpty_iff]
  constructor
  · intro h
    cases e : lessT p q with
    | nil => rfl
    | cons x L =>
      have hx : x ∈ lessT p q := by rw [e]; exact List.mem_cons_self
      obtain ⟨j, z⟩ := (canon_less (u := q) cp x hx).at_b0
      obtain ⟨z1, z2⟩ := (mem_less cq).mp ⟨x, hx, z⟩
      exact absurd (h _ _ z1) z2
  · intro h i j z
    refine Classical.byContradiction fun hn => ?_
    obtain ⟨x, hx, _⟩ := (mem_less (t := p) cq).mpr ⟨z, hn⟩
    rw [h] at hx
    cases hx
theorem part_off (cq : CanonO q) {x : B3} (hx : x ∈ lessT p q) : (andT (some x) q).isSome = false := by
  cases e : (andT (some x) q).isSome with
  | false => rfl
  | true =>
    obtain ⟨i, j, z⟩ := (isSome_iff canon_and).mp e
    obtain ⟨z1, z2⟩ := mem_and.mp z
    exact absurd z2 ((mem_less cq).mp ⟨x, hx, z1⟩).2
theorem part_lt (cp : CanonO p) (cq : CanonO q) {x : B3} (hx : x ∈ lessT p q) (h : (andT p q).isSome = true) : ltT (some x) p = true := by
  have cx : CanonO (some x) := fun u hu => by cases hu; exact canon_less cp x hx
  unfold ltT
  rw [Bool.and_eq_true, Bool.not_eq_true']
  refine ⟨(leT_iff cx).mpr fun i j z => ((mem_less cq).mp ⟨x, hx, z⟩).1, ?_⟩
  cases e : leT p (some x) with
  | false => rfl
  | true =>
    obtain ⟨i, j, z⟩ := (isSome_iff canon_and).mp h
    obtain ⟨z1, z2⟩ := mem_and.mp z
    exact absurd z2 ((mem_less cq).mp ⟨x, hx, (leT_iff cp).mp e _ _ z1⟩).2
theorem at_first {t : B3} (c : Canon t) : placesD (some t) t.b0 = tp t.p0 (min t.p1 (t.b0 + t.e1)) := by
  have h1 := c.b
  have h2 := c.p0
  rw [places_yes (by omega), show max t.p0 (t.b0 + t.e0) = t.p0 by omega]
theorem lt_ne (cp : CanonO p) (cq : CanonO q) : ltT p q = (leT p q && !eqB p q) := by
  unfold ltT
  cases e : leT p q with
  | false => rfl
  | true =>
    rw [Bool.true_and, Bool.true_and]
    congr 1
    rw [Bool.eq_iff_iff, eqB_iff, leT_iff cq]
    have e1 := (leT_iff cp).mp e
    exact ⟨fun h => canon_ext cp cq fun i j => ⟨e1 i j, h i j⟩, fun h i j z => by rw [h]; exact z⟩
end
end Sl57

set_option linter.all false
namespace Sl57
open Dt
/-! ### steps and sights as sets; pairs in order -/
theorem mem_step {t : Option B3} (c : CanonO t) {b lo hi i j : Int} (h : lo ≤ hi) : memO (stepT t b lo hi) i j ↔ ∃ i' j' s, memO t i' j' ∧ lo ≤ s ∧ s ≤ hi ∧ i = i' + b ∧ j = j' + b + s := by
  cases t with
  | none => exact ⟨fun z => z.elim, fun ⟨_, _, _, z, _⟩ => z.elim⟩
  | some t =>
    have ct := c t rfl
    rw [step_is ct h]
    obtain ⟨h1, h2, h3, h4, h5, h6, h7, h8, h9⟩ := ct
    show mem _ i j ↔ ∃ i' j' s, mem t i' j' ∧ _
    unfold mem boxM
    dsimp only
    constructor
    · intro z
      exact ⟨i - b, max (max t.p0 (i - b + t.e0)) (j - b - hi), j - b - max (max t.p0 (i - b + t.e0)) (j - b - hi), by omega, by omega, by omega, by omega, by omega⟩
    · rintro ⟨i', j', s, z⟩
      omega
theorem mem_sight {t : Option B3} (c : CanonO t) {lo hi bl i j : Int} (h : 0 ≤ bl) : memO (sightT t (some lo) (some hi) bl) i j ↔ ∃ i' e, memO t i' j ∧ lo ≤ j ∧ j ≤ hi ∧ -bl ≤ e ∧ e ≤ bl ∧ i = j - e := by
  cases t with
  | none => exact ⟨fun z => z.elim, fun ⟨_, _, z, _⟩ => z.elim⟩
  | some t =>
    have ct := c t rfl
    rcases Decidable.em (max t.p0 lo ≤ min t.p1 hi) with hy | hy
    · rw [sight_yes ct h hy]
      obtain ⟨h1, h2, h3, h4, h5, h6, h7, h8, h9⟩ := ct
      show mem _ i j ↔ ∃ i' e, mem t i' j ∧ _
      unfold mem boxM
      dsimp only
      constructor
      · intro z
        exact ⟨max t.b0 (j - t.e1), j - i, by omega, by omega, by omega, by omega, by omega, by omega⟩
      · rintro ⟨i', e, z⟩
        omega
    · rw [sight_no hy]
      show False ↔ ∃ i' e, mem t i' j ∧ _
      unfold mem boxM
      refine ⟨fun z => z.elim, fun ⟨i', e, z⟩ => ?_⟩
      omega
theorem sm_step {B : Int} {t : Option B3} {b lo hi : Int} (c : CanonO t) (s : SmO B t) (h : lo ≤ hi) (hb : -1 ≤ b ∧ b ≤ 1) (hl : -9 ≤ lo ∧ hi ≤ 9) : SmO (B + 10) (stepT t b lo hi) := fun u hu => by
  cases t with
  | none => cases hu
  | some t =>
    rw [step_is (c t rfl) h] at hu
    cases hu
    have z := s t rfl
    unfold B3.sm at z ⊢
    dsimp only
    omega
theorem sm_sight {B : Int} {t : Option B3} {lo hi bl : Int} (c : CanonO t) (s : SmO B t) (hB : 0 ≤ B) (h : 0 ≤ bl ∧ bl ≤ 9) : SmO (B + 10) (sightT t (some lo) (some hi) bl) := fun u hu => by
  cases t with
  | none => cases hu
  | some t =>
    rcases Decidable.em (max t.p0 lo ≤ min t.p1 hi) with hy | hy
    · rw [sight_yes (c t rfl) h.1 hy] at hu
      cases hu
      have z := s t rfl
      unfold B3.sm at z ⊢
      dsimp only
      omega
    · rw [sight_no hy] at hu
      cases hu
/-! ### codes -/
def enc (p : Int × Int) : Int := (p.1 + 500) * 1000 + (p.2 + 500)
def dec (c : Int) : Int × Int := (c / 1000 - 500, c % 1000 - 500)
theorem dec_enc {p : Int × Int} (h : -500 ≤ p.2 ∧ p.2 < 500) : dec (enc p) = p := by
  obtain ⟨a, b⟩ := p
  unfold dec enc
  dsimp only at h ⊢
  rw [Prod.mk.injEq]
  omega
theorem lex_dec {c d : Int} : lex (dec c) (dec d) ↔ c < d := by
  unfold lex dec
  dsimp only
  omega
theorem dec_inj {c d : Int} (h : dec c = dec d) : c = d := by
  unfold dec at h
  rw [Prod.mk.injEq] at h
  omega
/-- what stands behind some codes -/
structure Bhd (cs : List Int) (found : List (Int × Int)) : Prop where
  sort : found.Pairwise lex
  same : ∀ x, x ∈ found ↔ ∃ c, c ∈ cs ∧ x = dec c
  last : ∀ c, cs.getLast? = some c → found.getLast? = some (dec c)
theorem bhd_nil : Bhd [] [] := ⟨.nil, fun x => ⟨fun h => (by cases h), fun ⟨c, h, _⟩ => (by cases h)⟩, fun c h => (by cases h)⟩
theorem bhd_none {cs : List Int} (h : Bhd cs []) : cs = [] := by
  cases cs with
  | nil => rfl
  | cons c r =>
    have z := (h.same (dec c)).mpr ⟨c, List.mem_cons_self, rfl⟩
    cases z
theorem bhd_keep {cs : List Int} {found : List (Int × Int)} {c : Int} (h : Bhd cs found) (hl : found.getLast? = some (dec c)) : Bhd (cs ++ [c]) found := by
  refine ⟨h.sort, fun x => ⟨fun z => ?_, fun ⟨d, hd, e⟩ => ?_⟩, fun d hd => ?_⟩
  · obtain ⟨d, hd, e⟩ := (h.same x).mp z
    exact ⟨d, List.mem_append_left _ hd, e⟩
  · rcases List.mem_append.mp hd with hd | hd
    · exact (h.same x).mpr ⟨d, hd, e⟩
    · rw [List.mem_singleton] at hd
      subst hd
      rw [e]
      exact List.mem_of_getLast? hl
  · rw [List.getLast?_append, List.getLast?_singleton] at hd
    cases hd
    exact hl
theorem bhd_more {cs : List Int} {found : List (Int × Int)} {c : Int} (h : Bhd cs found) (hc : (cs ++ [c]).Pairwise (· ≤ ·)) (hl : ¬ found.getLast? = some (dec c)) : Bhd (cs ++ [c]) (found ++ [dec c]) := by
  obtain ⟨h1, h2, h3⟩ := List.pairwise_append.mp hc
  refine ⟨?_, fun x => ⟨fun z => ?_, fun ⟨d, hd, e⟩ => ?_⟩, fun d hd => ?_⟩
  · rw [List.pairwise_append]
    refine ⟨h.sort, List.pairwise_singleton _ _, fun x hx y hy => ?_⟩
    rw [List.mem_singleton] at hy
    subst hy
    obtain ⟨d, hd, e⟩ := (h.same x).mp hx
    subst e
    rw [lex_dec]
    have hle := h3 d hd c List.mem_cons_self
    rcases Int.lt_or_eq_of_le hle with z | z
    · exact z
    · subst z
      obtain ⟨l, hL⟩ : ∃ l, cs.getLast? = some l := by
        cases e : cs.getLast? with
        | none => rw [List.getLast?_eq_none_iff] at e; subst e; cases hd
        | some l => exact ⟨l, rfl⟩
      have hll := h.last l hL
      have hml := List.mem_of_getLast? hL
      have h4 := h3 l hml d List.mem_cons_self
      have h5 : d ≤ l := by
        obtain ⟨r, hr⟩ := List.getLast?_eq_some_iff.mp hL
        rw [hr] at h1 hd
        rcases List.mem_append.mp hd with z | z
        · exact (List.pairwise_append.mp h1).2.2 d z l List.mem_cons_self
        · rw [List.mem_singleton] at z
          omega
      have e2 : l = d := by omega
      subst e2
      exact absurd hll hl
  · rcases List.mem_append.mp z with z | z
    · obtain ⟨d, hd, e⟩ := (h.same x).mp z
      exact ⟨d, List.mem_append_left _ hd, e⟩
    · rw [List.mem_singleton] at z
      exact ⟨c, List.mem_append_right _ List.mem_cons_self, z⟩
  · rcases List.mem_append.mp hd with hd | hd
    · exact List.mem_append_left _ ((h.same x).mpr ⟨d, hd, e⟩)
    · rw [List.mem_singleton] at hd
      subst hd
      rw [e]
      exact List.mem_append_right _ List.mem_cons_self
  · rw [List.getLast?_append, List.getLast?_singleton] at hd
    cases hd
    rw [List.getLast?_append, List.getLast?_singleton]
    rfl
/-- the end -/
theorem bhd_end {ps found : List (Int × Int)} {cs : List Int} (hp : ∀ p, p ∈ ps → -500 ≤ p.2 ∧ p.2 < 500) (hc : cs.Perm (ps.map enc)) (h : Bhd cs found) : found.Pairwise lex ∧ ∀ x, x ∈ found ↔ x ∈ ps := by
  refine ⟨h.sort, fun x => ⟨fun z => ?_, fun z => ?_⟩⟩
  · obtain ⟨c, hm, e⟩ := (h.same x).mp z
    obtain ⟨p, hpm, e2⟩ := List.mem_map.mp (hc.mem_iff.mp hm)
    rw [e, ← e2, dec_enc (hp p hpm)]
    exact hpm
  · exact (h.same x).mpr ⟨enc x, hc.mem_iff.mpr (List.mem_map.mpr ⟨x, z, rfl⟩), (dec_enc (hp x z)).symm⟩
end Sl57

set_option Elab.async false
set_option linter.all false
set_option maxRecDepth 100000
set_option maxHeartbeats 1000000

namespace Sl57
open PySem PySem.Spec PyProof.Rows L2 Dt
set_option hygiene false
local macro_rules | `(tactic| walk_at "op") => `(tactic| (first
  | refine od_add ?_ | refine od_sub ?_ | refine od_lt ?_ | refine od_le ?_ | refine od_gt ?_ | refine od_ge ?_ | refine od_eq ?_ | refine od_ne ?_ | refine od_is ?_ | refine od_isn ?_
  | refine od_eqS ?_ | refine od_neS ?_ | refine od_eqB ?_ | refine od_neB ?_))
local macro_rules | `(tactic| walk_at "dead") => `(tactic| (first
  | (cases hb; done)
  | (exact absurd (show false = true from hb) (by decide))
  | (exact absurd (show true = false from hb) (by decide))
  | (exact absurd hb (by decide))
  | (exfalso; simp only [decide_eq_true_eq, decide_eq_false_iff_not, Bool.not_eq_true', Bool.not_eq_false'] at hb; omega)))
local macro_rules | `(tactic| walk_at "tidy") => `(tactic| (try simp only [decide_eq_true_eq, decide_eq_false_iff_not, Bool.not_eq_true', Bool.not_eq_false'] at hb))
local macro_rules | `(tactic| walk_at "truth") => `(tactic| (first | refine tr_bl ?_ | refine tr_lst ?_ | refine tr_tup ?_ | refine tr_non ?_ | refine tr_int ?_))
local macro_rules | `(tactic| walk_at "ix") => `(tactic| (first
  | refine ix_tup (j := 0) rfl rfl ?_ | refine ix_tup (j := 1) rfl rfl ?_ | refine ix_tup (j := 2) rfl rfl ?_
  | refine ix_lst (j := 0) rfl rfl ?_ | refine ix_lst (j := 1) rfl rfl ?_ | refine ix_lst (j := 2) rfl rfl ?_
  | refine ix_own (k := 0) (j := 0) rfl rfl rfl ?_
  | refine ix_own (k := 0) (j := 1) rfl rfl rfl ?_
  | refine ix_own (k := 0) (j := 2) rfl rfl rfl ?_
  | refine ix_own (k := 1) (j := 0) rfl rfl rfl ?_
  | refine ix_own (k := 1) (j := 1) rfl rfl rfl ?_
  | refine ix_own (k := 1) (j := 2) rfl rfl rfl ?_
  | refine ix_own (k := 2) (j := 0) rfl rfl rfl ?_
  | refine ix_own (k := 2) (j := 1) rfl rfl rfl ?_
  | refine ix_own (k := 2) (j := 2) rfl rfl rfl ?_
  | refine ix_own (k := 3) (j := 0) rfl rfl rfl ?_
  | refine ix_own (k := 3) (j := 1) rfl rfl rfl ?_
  | refine ix_own (k := 3) (j := 2) rfl rfl rfl ?_
  | refine ix_own (k := 4) (j := 0) rfl rfl rfl ?_
  | refine ix_own (k := 4) (j := 1) rfl rfl rfl ?_
  | refine ix_own (k := 4) (j := 2) rfl rfl rfl ?_
  | refine ix_own (k := 5) (j := 0) rfl rfl rfl ?_
  | refine ix_own (k := 5) (j := 1) rfl rfl rfl ?_
  | refine ix_own (k := 5) (j := 2) rfl rfl rfl ?_
  | refine ix_own (k := 6) (j := 0) rfl rfl rfl ?_
  | refine ix_own (k := 6) (j := 1) rfl rfl rfl ?_
  | refine ix_own (k := 6) (j := 2) rfl rfl rfl ?_
  | refine ix_own (k := 7) (j := 0) rfl rfl rfl ?_
  | refine ix_own (k := 7) (j := 1) rfl rfl rfl ?_
  | refine ix_own (k := 7) (j := 2) rfl rfl rfl ?_
  | refine ix_own (k := 8) (j := 0) rfl rfl rfl ?_
  | refine ix_own (k := 8) (j := 1) rfl rfl rfl ?_
  | refine ix_own (k := 8) (j := 2) rfl rfl rfl ?_
  | refine ix_own (k := 9) (j := 0) rfl rfl rfl ?_
  | refine ix_own (k := 9) (j := 1) rfl rfl rfl ?_
  | refine ix_own (k := 9) (j := 2) rfl rfl rfl ?_
  | refine ix_own (k := 10) (j := 0) rfl rfl rfl ?_
  | refine ix_own (k := 10) (j := 1) rfl rfl rfl ?_
  | refine ix_own (k := 10) (j := 2) rfl rfl rfl ?_
  | refine ix_own (k := 11) (j := 0) rfl rfl rfl ?_
  | refine ix_own (k := 11) (j := 1) rfl rfl rfl ?_
  | refine ix_own (k := 11) (j := 2) rfl rfl rfl ?_
  | refine ix_own (k := 12) (j := 0) rfl rfl rfl ?_
  | refine ix_own (k := 12) (j := 1) rfl rfl rfl ?_
  | refine ix_own (k := 12) (j := 2) rfl rfl rfl ?_
  | refine ix_own (k := 13) (j := 0) rfl rfl rfl ?_
  | refine ix_own (k := 13) (j := 1) rfl rfl rfl ?_
  | refine ix_own (k := 13) (j := 2) rfl rfl rfl ?_))
local macro_rules | `(tactic| walk_at "seti") => `(tactic| (first
  | refine ⟨0, 0, _, _, _, rfl, rfl, rfl, rfl, of_decide_eq_true rfl, ?_⟩
  | refine ⟨0, 1, _, _, _, rfl, rfl, rfl, rfl, of_decide_eq_true rfl, ?_⟩
  | refine ⟨0, 2, _, _, _, rfl, rfl, rfl, rfl, of_decide_eq_true rfl, ?_⟩
  | refine ⟨1, 0, _, _, _, rfl, rfl, rfl, rfl, of_decide_eq_true rfl, ?_⟩
  | refine ⟨1, 1, _, _, _, rfl, rfl, rfl, rfl, of_decide_eq_true rfl, ?_⟩
  | refine ⟨1, 2, _, _, _, rfl, rfl, rfl, rfl, of_decide_eq_true rfl, ?_⟩
  | refine ⟨2, 0, _, _, _, rfl, rfl, rfl, rfl, of_decide_eq_true rfl, ?_⟩
  | refine ⟨2, 1, _, _, _, rfl, rfl, rfl, rfl, of_decide_eq_true rfl, ?_⟩
  | refine ⟨2, 2, _, _, _, rfl, rfl, rfl, rfl, of_decide_eq_true rfl, ?_⟩
  | refine ⟨3, 0, _, _, _, rfl, rfl, rfl, rfl, of_decide_eq_true rfl, ?_⟩
  | refine ⟨3, 1, _, _, _, rfl, rfl, rfl, rfl, of_decide_eq_true rfl, ?_⟩
  | refine ⟨3, 2, _, _, _, rfl, rfl, rfl, rfl, of_decide_eq_true rfl, ?_⟩
  | refine ⟨4, 0, _, _, _, rfl, rfl, rfl, rfl, of_decide_eq_true rfl, ?_⟩
  | refine ⟨4, 1, _, _, _, rfl, rfl, rfl, rfl, of_decide_eq_true rfl, ?_⟩
  | refine ⟨4, 2, _, _, _, rfl, rfl, rfl, rfl, of_decide_eq_true rfl, ?_⟩
  | refine ⟨5, 0, _, _, _, rfl, rfl, rfl, rfl, of_decide_eq_true rfl, ?_⟩
  | refine ⟨5, 1, _, _, _, rfl, rfl, rfl, rfl, of_decide_eq_true rfl, ?_⟩
  | refine ⟨5, 2, _, _, _, rfl, rfl, rfl, rfl, of_decide_eq_true rfl, ?_⟩
  | refine ⟨6, 0, _, _, _, rfl, rfl, rfl, rfl, of_decide_eq_true rfl, ?_⟩
  | refine ⟨6, 1, _, _, _, rfl, rfl, rfl, rfl, of_decide_eq_true rfl, ?_⟩
  | refine ⟨6, 2, _, _, _, rfl, rfl, rfl, rfl, of_decide_eq_true rfl, ?_⟩
  | refine ⟨7, 0, _, _, _, rfl, rfl, rfl, rfl, of_decide_eq_true rfl, ?_⟩
  | refine ⟨7, 1, _, _, _, rfl, rfl, rfl, rfl, of_decide_eq_true rfl, ?_⟩
  | refine ⟨7, 2, _, _, _, rfl, rfl, rfl, rfl, of_decide_eq_true rfl, ?_⟩
  | refine ⟨8, 0, _, _, _, rfl, rfl, rfl, rfl, of_decide_eq_true rfl, ?_⟩
  | refine ⟨8, 1, _, _, _, rfl, rfl, rfl, rfl, of_decide_eq_true rfl, ?_⟩
  | refine ⟨8, 2, _, _, _, rfl, rfl, rfl, rfl, of_decide_eq_true rfl, ?_⟩
  | refine ⟨9, 0, _, _, _, rfl, rfl, rfl, rfl, of_decide_eq_true rfl, ?_⟩
  | refine ⟨9, 1, _, _, _, rfl, rfl, rfl, rfl, of_decide_eq_true rfl, ?_⟩
  | refine ⟨9, 2, _, _, _, rfl, rfl, rfl, rfl, of_decide_eq_true rfl, ?_⟩
  | refine ⟨10, 0, _, _, _, rfl, rfl, rfl, rfl, of_decide_eq_true rfl, ?_⟩
  | refine ⟨10, 1, _, _, _, rfl, rfl, rfl, rfl, of_decide_eq_true rfl, ?_⟩
  | refine ⟨10, 2, _, _, _, rfl, rfl, rfl, rfl, of_decide_eq_true rfl, ?_⟩
  | refine ⟨11, 0, _, _, _, rfl, rfl, rfl, rfl, of_decide_eq_true rfl, ?_⟩
  | refine ⟨11, 1, _, _, _, rfl, rfl, rfl, rfl, of_decide_eq_true rfl, ?_⟩
  | refine ⟨11, 2, _, _, _, rfl, rfl, rfl, rfl, of_decide_eq_true rfl, ?_⟩
  | refine ⟨12, 0, _, _, _, rfl, rfl, rfl, rfl, of_decide_eq_true rfl, ?_⟩
  | refine ⟨12, 1, _, _, _, rfl, rfl, rfl, rfl, of_decide_eq_true rfl, ?_⟩
  | refine ⟨12, 2, _, _, _, rfl, rfl, rfl, rfl, of_decide_eq_true rfl, ?_⟩
  | refine ⟨13, 0, _, _, _, rfl, rfl, rfl, rfl, of_decide_eq_true rfl, ?_⟩
  | refine ⟨13, 1, _, _, _, rfl, rfl, rfl, rfl, of_decide_eq_true rfl, ?_⟩
  | refine ⟨13, 2, _, _, _, rfl, rfl, rfl, rfl, of_decide_eq_true rfl, ?_⟩))
local macro_rules | `(tactic| walk_at "lst") => `(tactic| (first
  | refine cd_list (.inr (.inr ⟨0, _, rfl, rfl⟩)) ?_
  | refine cd_list (.inr (.inr ⟨1, _, rfl, rfl⟩)) ?_
  | refine cd_list (.inr (.inr ⟨2, _, rfl, rfl⟩)) ?_
  | refine cd_list (.inr (.inr ⟨3, _, rfl, rfl⟩)) ?_
  | refine cd_list (.inr (.inr ⟨4, _, rfl, rfl⟩)) ?_
  | refine cd_list (.inr (.inr ⟨5, _, rfl, rfl⟩)) ?_
  | refine cd_list (.inr (.inr ⟨6, _, rfl, rfl⟩)) ?_
  | refine cd_list (.inr (.inr ⟨7, _, rfl, rfl⟩)) ?_
  | refine cd_list (.inr (.inr ⟨8, _, rfl, rfl⟩)) ?_
  | refine cd_list (.inr (.inr ⟨9, _, rfl, rfl⟩)) ?_
  | refine cd_list (.inr (.inr ⟨10, _, rfl, rfl⟩)) ?_
  | refine cd_list (.inr (.inr ⟨11, _, rfl, rfl⟩)) ?_
  | refine cd_list (.inr (.inr ⟨12, _, rfl, rfl⟩)) ?_
  | refine cd_list (.inr (.inr ⟨13, _, rfl, rfl⟩)) ?_))
local macro_rules | `(tactic| walk_at "isi") => `(tactic| (first | refine cd_isi (k := true) rfl (by decide +kernel) ?_ | refine cd_isi (k := false) rfl (by decide +kernel) ?_))
local macro_rules | `(tactic| walk_at "size") => `(tactic| (first
  | exact (show 0 ≤ sizeLine by decide) | exact (show 1 ≤ sizeLine by decide) | exact (show 2 ≤ sizeLine by decide) | exact (show 3 ≤ sizeLine by decide) | exact (show 4 ≤ sizeLine by decide) | exact (show 5 ≤ sizeLine by decide) | exact (show 6 ≤ sizeLine by decide)))

section
variable {P : Program} {w : World} {K : PySem.W.Frag} {mg : Str → Option Value} {base : Heap}
/-! ### lists of pairs, walked -/
theorem room65 {k : Nat} {A : Around} (r : Room k A) : A.units + 65 < cLine := by have := r.un; omega
theorem setBox {M : Mem} {k : Nat} {x a b : Addr × MO} : (x :: M.set k a).set (k + 1) b = x :: M.set k b := by rw [List.set_cons_succ, List.set_set]
theorem setBox0 {M : Mem} {k : Nat} {x b : Addr × MO} : (x :: M).set (k + 1) b = x :: M.set k b := rfl
def cellsN (p0 e0 e1 b : Int) (j : Nat) : List (Int × Int) := (rn p0 j).flatMap fun t => cellL e0 e1 b t
def rowsN (b0 p0 p1 e0 e1 : Int) (i : Nat) : List (Int × Int) := (rn b0 i).flatMap fun b => cellsN p0 e0 e1 b (p1 + 1 - p0).toNat
def lrowsN (t : B3) (i : Nat) : List (Int × Int) := (rn t.b0 i).flatMap (rowL t)
theorem rows_all {b0 b1 p0 p1 e0 e1 : Int} : rowsN b0 p0 p1 e0 e1 (b1 + 1 - b0).toNat = allL b0 b1 p0 p1 e0 e1 := by
  unfold rowsN allL cellsN
  rw [rr_rn, rr_rn, show b1 - b0 + 1 = b1 + 1 - b0 by omega, show p1 - p0 + 1 = p1 + 1 - p0 by omega]
theorem rows_succ {b0 p0 p1 e0 e1 : Int} {i : Nat} : rowsN b0 p0 p1 e0 e1 (i + 1) = rowsN b0 p0 p1 e0 e1 i ++ cellsN p0 e0 e1 (b0 + (i : Int)) (p1 + 1 - p0).toNat := by
  unfold rowsN
  rw [rn_succ, List.flatMap_append, List.flatMap_singleton]
theorem cells_yes {R : List (Int × Int)} {p0 e0 e1 b : Int} {j : Nat} (h : e0 ≤ p0 + (j : Int) - b ∧ p0 + (j : Int) - b ≤ e1) : (R ++ cellsN p0 e0 e1 b (j + 1)).map pD = (R ++ cellsN p0 e0 e1 b j).map pD ++ [tp b (p0 + (j : Int))] := by
  unfold cellsN
  rw [rn_succ, List.flatMap_append, List.flatMap_singleton, ← List.append_assoc, List.map_append]
  unfold cellL
  rw [if_pos h]
  rfl
theorem cells_no {R : List (Int × Int)} {p0 e0 e1 b : Int} {j : Nat} (h : ¬ (e0 ≤ p0 + (j : Int) - b ∧ p0 + (j : Int) - b ≤ e1)) : (R ++ cellsN p0 e0 e1 b (j + 1)).map pD = (R ++ cellsN p0 e0 e1 b j).map pD ++ [] := by
  unfold cellsN
  rw [rn_succ, List.flatMap_append, List.flatMap_singleton, ← List.append_assoc, List.map_append]
  unfold cellL
  rw [if_neg h]
  rfl
theorem flat_len {f : Int → List (Int × Int)} {lo : Int} {c : Nat} (h : ∀ b, (f b).length ≤ c) : ∀ i : Nat, ((rn lo i).flatMap f).length ≤ i * c
  | 0 => Nat.zero_le _
  | i + 1 => by
    rw [rn_succ, List.flatMap_append, List.flatMap_singleton, List.length_append, Nat.succ_mul]
    exact Nat.add_le_add (flat_len h i) (h _)
theorem cells_len {p0 e0 e1 b : Int} {j : Nat} : (cellsN p0 e0 e1 b j).length ≤ j := by
  have z := flat_len (f := fun t => cellL e0 e1 b t) (lo := p0) (c := 1) (fun t => by unfold cellL; split <;> simp) j
  rw [Nat.mul_one] at z
  exact z
theorem rows_len {b0 p0 p1 e0 e1 : Int} {i : Nat} (hi : i ≤ 1000) (h : p1 + 1 - p0 ≤ 1000) : (rowsN b0 p0 p1 e0 e1 i).length ≤ 1000000 := by
  have z := flat_len (f := fun b => cellsN p0 e0 e1 b (p1 + 1 - p0).toNat) (lo := b0) (c := 1000) (fun t => Nat.le_trans cells_len (by omega)) i
  have y : i * 1000 ≤ 1000 * 1000 := Nat.mul_le_mul_right 1000 hi
  unfold rowsN
  omega
theorem all_size {b0 p0 p1 e0 e1 b : Int} {i j k : Nat} (hi : i ≤ 1000) (h : p1 + 1 - p0 ≤ 1000) (hj : j ≤ 1000) (hk : k ≤ 1) : ((rowsN b0 p0 p1 e0 e1 i ++ cellsN p0 e0 e1 b j).map pD).length + k ≤ sizeLine := by
  have z := rows_len (b0 := b0) (e0 := e0) (e1 := e1) hi h
  have y := cells_len (p0 := p0) (e0 := e0) (e1 := e1) (b := b) (j := j)
  have e : sizeLine = 2 ^ 24 := rfl
  rw [List.length_map, List.length_append]
  omega
theorem lrows_succ {t : B3} {i : Nat} : (lrowsN t (i + 1)).map pD = (lrowsN t i).map pD ++ (rn (max t.p0 (t.b0 + (i : Int) + t.e0)) (min t.p1 (t.b0 + (i : Int) + t.e1) + 1 - max t.p0 (t.b0 + (i : Int) + t.e0)).toNat).map fun j => tp (t.b0 + (i : Int)) j := by
  unfold lrowsN
  rw [rn_succ, List.flatMap_append, List.flatMap_singleton, List.map_append]
  unfold rowL
  rw [rr_rn, List.map_map, show min t.p1 (t.b0 + (i : Int) + t.e1) - max t.p0 (t.b0 + (i : Int) + t.e0) + 1 = min t.p1 (t.b0 + (i : Int) + t.e1) + 1 - max t.p0 (t.b0 + (i : Int) + t.e0) by omega]
  rfl
theorem lrows_all {t : B3} : lrowsN t (t.b1 + 1 - t.b0).toNat = listL (some t) := by
  show _ = (rr t.b0 t.b1).flatMap (rowL t)
  rw [rr_rn, show t.b1 - t.b0 + 1 = t.b1 + 1 - t.b0 by omega]
  rfl
theorem lrows_len {t : B3} {i : Nat} (hi : i ≤ 1000) (h : t.p1 + 1 - t.p0 ≤ 1000) : ((lrowsN t i).map pD).length ≤ 1000000 := by
  have z := flat_len (f := rowL t) (lo := t.b0) (c := 1000) (fun b => by unfold rowL; rw [List.length_map, rr_rn, rn_len]; omega) i
  have y : i * 1000 ≤ 1000 * 1000 := Nat.mul_le_mul_right 1000 hi
  rw [List.length_map]
  unfold lrowsN
  omega
def S_all : DS := fun ds M Φ => ∃ b0 b1 p0 p1 e0 e1 : Int, ds = [.lst [tp b0 b1, tp p0 p1, tp e0 e1]] ∧ -400 ≤ b0 ∧ b1 ≤ 400 ∧ -400 ≤ p0 ∧ p1 ≤ 400 ∧ b0 ≤ 400 ∧ -400 ≤ b1 ∧ p0 ≤ 400 ∧ -400 ≤ p1 ∧ Φ (psD (allL b0 b1 p0 p1 e0 e1)) M
def S_listed (C : Addr) : DS := fun ds M Φ => ∃ t : Option B3, ds = [spanD C t] ∧ CanonO t ∧ SmO 400 t ∧ ∀ l, Φ (.adr l) ((l, .lst ((listL t).map pD)) :: M)
def S_within : DS := fun ds M Φ => ∃ as bs : List (Int × Int), ds = [psD as, psD bs] ∧ as.length < sizeLine ∧ Φ (.bl (decide (∀ x, x ∈ as → x ∈ bs))) M
def unP : D → Int × Int
  | .tup [.int a, .int b] => (a, b)
  | _ => (0, 0)
theorem filt_map (f : Int × Int → Bool) : ∀ as : List (Int × Int), ((as.map pD).filter fun y => f (unP y)).map (fun y => y) = (as.filter f).map pD
  | [] => rfl
  | a :: as => by
    have ih := filt_map f as
    rw [List.map_cons, List.filter_cons, List.filter_cons]
    show (if f a = true then _ else _ : List D).map _ = _
    split
    · rw [List.map_cons, ih]
      rfl
    · exact ih
theorem filt_nil {as bs : List (Int × Int)} : decide ((as.filter fun x => !decide (x ∈ bs)) = []) = decide (∀ x, x ∈ as → x ∈ bs) := by
  rw [decide_eq_decide, List.filter_eq_nil_iff]
  simp only [Bool.not_eq_true', decide_eq_false_iff_not, Classical.not_not]
abbrev s_Lall : Stmt := top 19
theorem sc_Lall : FnScope ["_law_bounds_here", "_law_found", "_law_b", "_law_t"] ["_law_bounds_here"] (defScope s_Lall) := ⟨rfl, rfl, rfl, by decide +kernel, rfl, by decide +kernel, by decide +kernel⟩
theorem ok_Lall {f : Addr} {fd : FuncData} (F : FunD K "_law_all" "_law_all" (defArgs s_Lall) (defBody s_Lall) (defScope s_Lall) [] [] f fd) (B : Bf mg) : FnOk P w K mg base CX0 1 f fd ["_law_bounds_here"] (spOf K S_all) := by
  refine fn_data (k := 0) F sc_Lall (fun ds M Φ h => ?_) (fun cdv A outer s H E ds M Φ hr h => ?_)
  · obtain ⟨b0, b1, p0, p1, e0, e1, rfl, hb0, hb1, hp0, hp1, hb0x, hb1x, hp0x, hp1x, q⟩ := h
    all_goals rfl
  · obtain ⟨b0, b1, p0, p1, e0, e1, rfl, hb0, hb1, hp0, hp1, hb0x, hb1x, hp0x, hp1x, q⟩ := h
    refine ws_set 1 sc_Lall.nd ?_
    refine we_lstO ?_
    refine wa_nil ?_
    refine ⟨(by walk_at "size"), fun l_1 => ?_⟩
    refine ws_cons (w1_forR2 (by passes_own) rfl rfl B.range ?_)
    refine wa_cons ?_
    refine we_ix ?_ (fun _ _ => rfl)
    refine we_ix ?_ (fun _ _ => rfl)
    refine wv 0 rfl ?_
    refine we_int ?_
    walk_at "ix"
    refine we_int ?_
    walk_at "ix"
    refine wa_cons ?_
    refine we_bin ?_
    refine we_ix ?_ (fun _ _ => rfl)
    refine we_ix ?_ (fun _ _ => rfl)
    refine wv 0 rfl ?_
    refine we_int ?_
    walk_at "ix"
    refine we_int ?_
    walk_at "ix"
    refine we_int ?_
    walk_at "op"
    refine wa_nil ?_
    refine ⟨fun i Γ M2 => Γ = [some (.lst [tp b0 b1, tp p0 p1, tp e0 e1]), some (.adr l_1), none, none] ∧ M2 = (l_1, .lst ((rowsN b0 p0 p1 e0 e1 i).map pD)) :: M, b0, b1 + 1, rfl, by omega, ⟨rfl, rfl⟩, ?_, ?_⟩
    · rintro i Γ' M' hi ⟨rfl, rfl⟩
      refine gd_name 2 sc_Lall.nd ?_
      refine ws_cons (w1_forR2 (by passes_own) rfl rfl B.range ?_)
      refine wa_cons ?_
      refine we_ix ?_ (fun _ _ => rfl)
      refine we_ix ?_ (fun _ _ => rfl)
      refine wv 0 rfl ?_
      refine we_int ?_
      walk_at "ix"
      refine we_int ?_
      walk_at "ix"
      refine wa_cons ?_
      refine we_bin ?_
      refine we_ix ?_ (fun _ _ => rfl)
      refine we_ix ?_ (fun _ _ => rfl)
      refine wv 0 rfl ?_
      refine we_int ?_
      walk_at "ix"
      refine we_int ?_
      walk_at "ix"
      refine we_int ?_
      walk_at "op"
      refine wa_nil ?_
      refine ⟨fun j Γ M2 => Γ = [some (.lst [tp b0 b1, tp p0 p1, tp e0 e1]), some (.adr l_1), some (.int (b0 + (i : Int))), none] ∧ M2 = (l_1, .lst ((rowsN b0 p0 p1 e0 e1 i ++ cellsN p0 e0 e1 (b0 + (i : Int)) j).map pD)) :: M, p0, p1 + 1, rfl, by omega, ⟨rfl, by rw [show cellsN p0 e0 e1 (b0 + (i : Int)) 0 = [] from rfl, List.append_nil]⟩, ?_, ?_⟩
      · rintro j Γ' M' hj ⟨rfl, rfl⟩
        refine gd_name 3 sc_Lall.nd ?_
        refine ws_expr ?_
        refine we_extend ?_
        refine wv 1 rfl ?_
        refine ⟨_, 0, _, rfl, rfl, ?_⟩
        refine we_if ?_
        refine wt_chain ?_
        refine we_ix ?_ (fun _ _ => rfl)
        refine we_ix ?_ (fun _ _ => rfl)
        refine wv 0 rfl ?_
        refine we_int ?_
        walk_at "ix"
        refine we_int ?_
        walk_at "ix"
        refine we_bin ?_
        refine wv 3 rfl ?_
        refine wv 2 rfl ?_
        walk_at "op"
        walk_at "op"
        refine ⟨_, rfl, fun hb => ?_, fun hb => ?_⟩
        · first
          | (walk_at "dead")
          | (
            walk_at "tidy"
            refine we_ix ?_ (fun _ _ => rfl)
            refine we_ix ?_ (fun _ _ => rfl)
            refine wv 0 rfl ?_
            refine we_int ?_
            walk_at "ix"
            refine we_int ?_
            walk_at "ix"
            walk_at "op"
            refine ⟨_, rfl, ?_⟩
            refine ⟨fun hb => ?_, fun hb => ?_⟩
            · first
              | (walk_at "dead")
              | (
                walk_at "tidy"
                refine we_lstO ?_
                refine wa_cons ?_
                refine we_tup ?_
                refine wa_cons ?_
                refine wv 2 rfl ?_
                refine wa_cons ?_
                refine wv 3 rfl ?_
                refine wa_nil ?_
                refine ⟨(by walk_at "size"), ?_⟩
                refine wa_nil ?_
                refine ⟨(by walk_at "size"), fun l_2 => ?_⟩
                refine ⟨1, 0, _, _, _, rfl, rfl, rfl, all_size (by omega) (by omega) (by omega) (of_decide_eq_true rfl), ?_⟩
                first
                | (refine ws_wk (Γ' := [some (.lst [tp b0 b1, tp p0 p1, tp e0 e1]), some (.adr l_1), some (.int (b0 + (i : Int))), none]) (M' := (l_1, .lst ((rowsN b0 p0 p1 e0 e1 i ++ cellsN p0 e0 e1 (b0 + (i : Int)) j).map pD ++ [tp (b0 + (i : Int)) (p0 + (j : Int))])) :: M) (by repeat (first | exact wkE | refine wkS ?_ | refine wkN ?_)) (.cons _ (.refl _)) (ws_nil ⟨rfl, by rw [cells_yes (by omega)]⟩))
                | (refine ws_wk (Γ' := [some (.lst [tp b0 b1, tp p0 p1, tp e0 e1]), some (.adr l_1), some (.int (b0 + (i : Int))), none]) (M' := (l_1, .lst ((rowsN b0 p0 p1 e0 e1 i ++ cellsN p0 e0 e1 (b0 + (i : Int)) j).map pD ++ [])) :: M) (by repeat (first | exact wkE | refine wkS ?_ | refine wkN ?_)) (.cons _ (.refl _)) (ws_nil ⟨rfl, by rw [cells_no (by omega)]⟩)))
            · first
              | (walk_at "dead")
              | (
                walk_at "tidy"
                refine we_lstO ?_
                refine wa_nil ?_
                refine ⟨(by walk_at "size"), fun l_3 => ?_⟩
                refine ⟨1, 0, _, _, _, rfl, rfl, rfl, all_size (by omega) (by omega) (by omega) (of_decide_eq_true rfl), ?_⟩
                first
                | (refine ws_wk (Γ' := [some (.lst [tp b0 b1, tp p0 p1, tp e0 e1]), some (.adr l_1), some (.int (b0 + (i : Int))), none]) (M' := (l_1, .lst ((rowsN b0 p0 p1 e0 e1 i ++ cellsN p0 e0 e1 (b0 + (i : Int)) j).map pD ++ [tp (b0 + (i : Int)) (p0 + (j : Int))])) :: M) (by repeat (first | exact wkE | refine wkS ?_ | refine wkN ?_)) (.cons _ (.refl _)) (ws_nil ⟨rfl, by rw [cells_yes (by omega)]⟩))
                | (refine ws_wk (Γ' := [some (.lst [tp b0 b1, tp p0 p1, tp e0 e1]), some (.adr l_1), some (.int (b0 + (i : Int))), none]) (M' := (l_1, .lst ((rowsN b0 p0 p1 e0 e1 i ++ cellsN p0 e0 e1 (b0 + (i : Int)) j).map pD ++ [])) :: M) (by repeat (first | exact wkE | refine wkS ?_ | refine wkN ?_)) (.cons _ (.refl _)) (ws_nil ⟨rfl, by rw [cells_no (by omega)]⟩))))
        · first
          | (walk_at "dead")
          | (
            walk_at "tidy"
            refine ⟨fun hb => ?_, fun hb => ?_⟩
            · walk_at "dead"
            · walk_at "tidy"
              refine we_lstO ?_
              refine wa_nil ?_
              refine ⟨(by walk_at "size"), fun l_4 => ?_⟩
              refine ⟨1, 0, _, _, _, rfl, rfl, rfl, all_size (by omega) (by omega) (by omega) (of_decide_eq_true rfl), ?_⟩
              first
              | (refine ws_wk (Γ' := [some (.lst [tp b0 b1, tp p0 p1, tp e0 e1]), some (.adr l_1), some (.int (b0 + (i : Int))), none]) (M' := (l_1, .lst ((rowsN b0 p0 p1 e0 e1 i ++ cellsN p0 e0 e1 (b0 + (i : Int)) j).map pD ++ [tp (b0 + (i : Int)) (p0 + (j : Int))])) :: M) (by repeat (first | exact wkE | refine wkS ?_ | refine wkN ?_)) (.cons _ (.refl _)) (ws_nil ⟨rfl, by rw [cells_yes (by omega)]⟩))
              | (refine ws_wk (Γ' := [some (.lst [tp b0 b1, tp p0 p1, tp e0 e1]), some (.adr l_1), some (.int (b0 + (i : Int))), none]) (M' := (l_1, .lst ((rowsN b0 p0 p1 e0 e1 i ++ cellsN p0 e0 e1 (b0 + (i : Int)) j).map pD ++ [])) :: M) (by repeat (first | exact wkE | refine wkS ?_ | refine wkN ?_)) (.cons _ (.refl _)) (ws_nil ⟨rfl, by rw [cells_no (by omega)]⟩)))
      · rintro Γ' M' ⟨rfl, rfl⟩
        refine ws_wk (Γ' := [some (.lst [tp b0 b1, tp p0 p1, tp e0 e1]), some (.adr l_1), none, none]) (M' := (l_1, .lst ((rowsN b0 p0 p1 e0 e1 i ++ cellsN p0 e0 e1 (b0 + (i : Int)) (p1 + 1 - p0).toNat).map pD)) :: M) (by repeat (first | exact wkE | refine wkS ?_ | refine wkN ?_)) (.refl _) ?_
        refine ws_nil ?_
        exact ⟨rfl, by rw [rows_succ]⟩
    · rintro Γ' M' ⟨rfl, rfl⟩
      rw [rows_all]
      refine ws_freeze (i := 1) rfl ?_
      refine ws_ret ?_
      refine wv 1 rfl ?_
      exact q
abbrev s_Llisted : Stmt := top 18
theorem sc_Llisted : FnScope ["_law_span", "_law_found", "_law_b", "_law_near", "_law_t"] ["_law_span"] (defScope s_Llisted) := ⟨rfl, rfl, rfl, by decide +kernel, rfl, by decide +kernel, by decide +kernel⟩
theorem ok_Llisted {f : Addr} {fd : FuncData} (F : FunD K "_law_listed" "_law_listed" (defArgs s_Llisted) (defBody s_Llisted) (defScope s_Llisted) [] [] f fd) (B : Bf mg) {C : Addr} (hS : SpC K C) (hP : HasMe P w K mg base 2 C "places_at" (S_places_at C)) : FnOk P w K mg base CX0 3 f fd ["_law_span"] (spOf K (S_listed C)) := by
  refine fn_data (k := 2) F sc_Llisted (fun ds M Φ h => ?_) (fun cdv A outer s H E ds M Φ hr h => ?_)
  · obtain ⟨t, rfl, ct, st, q⟩ := h
    all_goals rfl
  · obtain ⟨t, rfl, ct, st, q⟩ := h
    cases t with
    | none =>
      refine ws_set 1 sc_Llisted.nd ?_
      refine we_lstO ?_
      refine wa_nil ?_
      refine ⟨(by walk_at "size"), fun l_1 => ?_⟩
      refine ws_if ?_
      refine wt_cmp ?_ (nomark _)
      refine we_attr ?_ (by rfl)
      refine wv 0 rfl ?_
      refine at_fld (.inl rfl) lk_here hS.cls hS.nb ?_
      refine we_non ?_
      walk_at "op"
      refine ⟨_, rfl, ?_⟩
      refine ⟨fun hb => ?_, fun hb => ?_⟩
      · walk_at "tidy"
        refine ws_ret ?_
        refine wv 1 rfl ?_
        exact q _
      · walk_at "dead"
    | some t =>
      have hst := st t rfl
      unfold B3.sm at hst
      have hct := ct t rfl
      have hcb := hct.b
      have hcp := hct.p
      have hce := hct.e
      refine ws_set 1 sc_Llisted.nd ?_
      refine we_lstO ?_
      refine wa_nil ?_
      refine ⟨(by walk_at "size"), fun l_1 => ?_⟩
      refine ws_if ?_
      refine wt_cmp ?_ (nomark _)
      refine we_attr ?_ (by rfl)
      refine wv 0 rfl ?_
      refine at_fld (.inl rfl) lk_here hS.cls hS.nb ?_
      refine we_non ?_
      walk_at "op"
      refine ⟨_, rfl, ?_⟩
      refine ⟨fun hb => ?_, fun hb => ?_⟩
      · walk_at "dead"
      · walk_at "tidy"
        refine ws_nil ?_
        refine ws_cons (w1_forR2 (by passes_own) rfl rfl B.range ?_)
        refine wa_cons ?_
        refine we_ix ?_ (fun _ _ => rfl)
        refine we_attr ?_ (by rfl)
        refine wv 0 rfl ?_
        refine at_fld (.inl rfl) lk_here hS.cls hS.nb ?_
        refine we_int ?_
        walk_at "ix"
        refine wa_cons ?_
        refine we_bin ?_
        refine we_ix ?_ (fun _ _ => rfl)
        refine we_attr ?_ (by rfl)
        refine wv 0 rfl ?_
        refine at_fld (.inl rfl) lk_here hS.cls hS.nb ?_
        refine we_int ?_
        walk_at "ix"
        refine we_int ?_
        walk_at "op"
        refine wa_nil ?_
        refine ⟨fun i Γ M2 => Γ = [some (spanD C (some t)), some (.adr l_1), none, none, none] ∧ M2 = (l_1, .lst ((lrowsN t i).map pD)) :: M, t.b0, t.b1 + 1, rfl, by omega, ⟨rfl, rfl⟩, ?_, ?_⟩
        · rintro i Γ' M' hi ⟨rfl, rfl⟩
          refine gd_name 2 sc_Llisted.nd ?_
          refine ws_set 3 sc_Llisted.nd ?_
          refine wme hP (hr.mono (by decide)) hS.cls ?_
          refine wv 0 rfl ?_
          refine ⟨⟨flds _, .inl rfl, flds_no (by decide) (by decide) (by decide)⟩, ?_⟩
          refine wa_cons ?_
          refine wv 2 rfl ?_
          refine wa_nil ?_
          refine use_places ?_
          rw [places_yes (by omega)]
          refine ws_expr ?_
          refine we_extend ?_
          refine wv 1 rfl ?_
          refine ⟨_, 0, _, rfl, rfl, ?_⟩
          refine lcOwnR2 (own := [("_law_t", 4)]) (j := 4) sc_Llisted.nd B.range ?_ (blkOk_by (N := ["_law_span", "_law_found", "_law_b", "_law_near", "_law_t"]) (sc := defScope s_Llisted) (by decide +kernel)) (fun _ _ _ _ _ => pg_name (i := 4) sc_Llisted.nd rfl (Or.inl rfl))
          refine wa_cons ?_
          refine we_ix ?_ (fun _ _ => rfl)
          refine wv 3 rfl ?_
          refine we_int ?_
          walk_at "ix"
          refine wa_cons ?_
          refine we_bin ?_
          refine we_ix ?_ (fun _ _ => rfl)
          refine wv 3 rfl ?_
          refine we_int ?_
          walk_at "ix"
          refine we_int ?_
          walk_at "op"
          refine wa_nil ?_
          refine ⟨_, _, fun z => tp (t.b0 + (i : Int)) z, rfl, by omega, by omega, by omega, fun z hz1 hz2 l out s H C' cl fp => ?_, fun l_2 => ?_⟩
          · refine we_tup ?_
            refine wa_cons ?_
            refine wv 2 rfl ?_
            refine wa_cons ?_
            refine wv 4 rfl ?_
            refine wa_nil ?_
            exact ⟨(by walk_at "size"), rfl, rfl⟩
          refine ⟨1, 0, _, _, _, rfl, rfl, rfl, (by have hz := lrows_len (t := t) (i := i) (by omega) (by omega); have he : sizeLine = 2 ^ 24 := rfl; simp only [List.length_map, rn_len] at hz ⊢; omega), ?_⟩
          refine ws_wk (Γ' := [some (spanD C (some t)), some (.adr l_1), none, none, none]) (M' := (l_1, .lst ((lrowsN t i).map pD ++ (rn (max t.p0 (t.b0 + (i : Int) + t.e0)) (min t.p1 (t.b0 + (i : Int) + t.e1) + 1 - max t.p0 (t.b0 + (i : Int) + t.e0)).toNat).map fun j => tp (t.b0 + (i : Int)) j)) :: M) (by repeat (first | exact wkE | refine wkS ?_ | refine wkN ?_)) (.cons _ (.refl _)) (ws_nil ⟨rfl, by rw [lrows_succ]⟩)
        · rintro Γ' M' ⟨rfl, rfl⟩
          rw [lrows_all]
          refine ws_ret ?_
          refine wv 1 rfl ?_
          exact q _
end
end Sl57

set_option Elab.async false
set_option linter.all false
set_option maxRecDepth 100000
set_option maxHeartbeats 1000000

namespace Sl57
open PySem PySem.Spec PyProof.Rows L2 Dt
set_option hygiene false
local macro_rules | `(tactic| walk_at "op") => `(tactic| (first
  | refine od_add ?_ | refine od_sub ?_ | refine od_lt ?_ | refine od_le ?_ | refine od_gt ?_ | refine od_ge ?_ | refine od_eq ?_ | refine od_ne ?_ | refine od_is ?_ | refine od_isn ?_
  | refine od_eqS ?_ | refine od_neS ?_ | refine od_eqB ?_ | refine od_neB ?_))
local macro_rules | `(tactic| walk_at "dead") => `(tactic| (first
  | (cases hb; done)
  | (exact absurd (show false = true from hb) (by decide))
  | (exact absurd (show true = false from hb) (by decide))
  | (exact absurd hb (by decide))
  | (exfalso; simp only [decide_eq_true_eq, decide_eq_false_iff_not, Bool.not_eq_true', Bool.not_eq_false'] at hb; omega)))
local macro_rules | `(tactic| walk_at "tidy") => `(tactic| (try simp only [decide_eq_true_eq, decide_eq_false_iff_not, Bool.not_eq_true', Bool.not_eq_false'] at hb))
local macro_rules | `(tactic| walk_at "truth") => `(tactic| (first | refine tr_bl ?_ | refine tr_lst ?_ | refine tr_tup ?_ | refine tr_non ?_ | refine tr_int ?_))
local macro_rules | `(tactic| walk_at "ix") => `(tactic| (first
  | refine ix_tup (j := 0) rfl rfl ?_ | refine ix_tup (j := 1) rfl rfl ?_ | refine ix_tup (j := 2) rfl rfl ?_
  | refine ix_lst (j := 0) rfl rfl ?_ | refine ix_lst (j := 1) rfl rfl ?_ | refine ix_lst (j := 2) rfl rfl ?_
  | refine ix_own (k := 0) (j := 0) rfl rfl rfl ?_
  | refine ix_own (k := 0) (j := 1) rfl rfl rfl ?_
  | refine ix_own (k := 0) (j := 2) rfl rfl rfl ?_
  | refine ix_own (k := 1) (j := 0) rfl rfl rfl ?_
  | refine ix_own (k := 1) (j := 1) rfl rfl rfl ?_
  | refine ix_own (k := 1) (j := 2) rfl rfl rfl ?_
  | refine ix_own (k := 2) (j := 0) rfl rfl rfl ?_
  | refine ix_own (k := 2) (j := 1) rfl rfl rfl ?_
  | refine ix_own (k := 2) (j := 2) rfl rfl rfl ?_
  | refine ix_own (k := 3) (j := 0) rfl rfl rfl ?_
  | refine ix_own (k := 3) (j := 1) rfl rfl rfl ?_
  | refine ix_own (k := 3) (j := 2) rfl rfl rfl ?_
  | refine ix_own (k := 4) (j := 0) rfl rfl rfl ?_
  | refine ix_own (k := 4) (j := 1) rfl rfl rfl ?_
  | refine ix_own (k := 4) (j := 2) rfl rfl rfl ?_
  | refine ix_own (k := 5) (j := 0) rfl rfl rfl ?_
  | refine ix_own (k := 5) (j := 1) rfl rfl rfl ?_
  | refine ix_own (k := 5) (j := 2) rfl rfl rfl ?_
  | refine ix_own (k := 6) (j := 0) rfl rfl rfl ?_
  | refine ix_own (k := 6) (j := 1) rfl rfl rfl ?_
  | refine ix_own (k := 6) (j := 2) rfl rfl rfl ?_
  | refine ix_own (k := 7) (j := 0) rfl rfl rfl ?_
  | refine ix_own (k := 7) (j := 1) rfl rfl rfl ?_
  | refine ix_own (k := 7) (j := 2) rfl rfl rfl ?_
  | refine ix_own (k := 8) (j := 0) rfl rfl rfl ?_
  | refine ix_own (k := 8) (j := 1) rfl rfl rfl ?_
  | refine ix_own (k := 8) (j := 2) rfl rfl rfl ?_
  | refine ix_own (k := 9) (j := 0) rfl rfl rfl ?_
  | refine ix_own (k := 9) (j := 1) rfl rfl rfl ?_
  | refine ix_own (k := 9) (j := 2) rfl rfl rfl ?_
  | refine ix_own (k := 10) (j := 0) rfl rfl rfl ?_
  | refine ix_own (k := 10) (j := 1) rfl rfl rfl ?_
  | refine ix_own (k := 10) (j := 2) rfl rfl rfl ?_
  | refine ix_own (k := 11) (j := 0) rfl rfl rfl ?_
  | refine ix_own (k := 11) (j := 1) rfl rfl rfl ?_
  | refine ix_own (k := 11) (j := 2) rfl rfl rfl ?_
  | refine ix_own (k := 12) (j := 0) rfl rfl rfl ?_
  | refine ix_own (k := 12) (j := 1) rfl rfl rfl ?_
  | refine ix_own (k := 12) (j := 2) rfl rfl rfl ?_
  | refine ix_own (k := 13) (j := 0) rfl rfl rfl ?_
  | refine ix_own (k := 13) (j := 1) rfl rfl rfl ?_
  | refine ix_own (k := 13) (j := 2) rfl rfl rfl ?_))
local macro_rules | `(tactic| walk_at "seti") => `(tactic| (first
  | refine ⟨0, 0, _, _, _, rfl, rfl, rfl, rfl, of_decide_eq_true rfl, ?_⟩
  | refine ⟨0, 1, _, _, _, rfl, rfl, rfl, rfl, of_decide_eq_true rfl, ?_⟩
  | refine ⟨0, 2, _, _, _, rfl, rfl, rfl, rfl, of_decide_eq_true rfl, ?_⟩
  | refine ⟨1, 0, _, _, _, rfl, rfl, rfl, rfl, of_decide_eq_true rfl, ?_⟩
  | refine ⟨1, 1, _, _, _, rfl, rfl, rfl, rfl, of_decide_eq_true rfl, ?_⟩
  | refine ⟨1, 2, _, _, _, rfl, rfl, rfl, rfl, of_decide_eq_true rfl, ?_⟩
  | refine ⟨2, 0, _, _, _, rfl, rfl, rfl, rfl, of_decide_eq_true rfl, ?_⟩
  | refine ⟨2, 1, _, _, _, rfl, rfl, rfl, rfl, of_decide_eq_true rfl, ?_⟩
  | refine ⟨2, 2, _, _, _, rfl, rfl, rfl, rfl, of_decide_eq_true rfl, ?_⟩
  | refine ⟨3, 0, _, _, _, rfl, rfl, rfl, rfl, of_decide_eq_true rfl, ?_⟩
  | refine ⟨3, 1, _, _, _, rfl, rfl, rfl, rfl, of_decide_eq_true rfl, ?_⟩
  | refine ⟨3, 2, _, _, _, rfl, rfl, rfl, rfl, of_decide_eq_true rfl, ?_⟩
  | refine ⟨4, 0, _, _, _, rfl, rfl, rfl, rfl, of_decide_eq_true rfl, ?_⟩
  | refine ⟨4, 1, _, _, _, rfl, rfl, rfl, rfl, of_decide_eq_true rfl, ?_⟩
  | refine ⟨4, 2, _, _, _, rfl, rfl, rfl, rfl, of_decide_eq_true rfl, ?_⟩
  | refine ⟨5, 0, _, _, _, rfl, rfl, rfl, rfl, of_decide_eq_true rfl, ?_⟩
  | refine ⟨5, 1, _, _, _, rfl, rfl, rfl, rfl, of_decide_eq_true rfl, ?_⟩
  | refine ⟨5, 2, _, _, _, rfl, rfl, rfl, rfl, of_decide_eq_true rfl, ?_⟩
  | refine ⟨6, 0, _, _, _, rfl, rfl, rfl, rfl, of_decide_eq_true rfl, ?_⟩
  | refine ⟨6, 1, _, _, _, rfl, rfl, rfl, rfl, of_decide_eq_true rfl, ?_⟩
  | refine ⟨6, 2, _, _, _, rfl, rfl, rfl, rfl, of_decide_eq_true rfl, ?_⟩
  | refine ⟨7, 0, _, _, _, rfl, rfl, rfl, rfl, of_decide_eq_true rfl, ?_⟩
  | refine ⟨7, 1, _, _, _, rfl, rfl, rfl, rfl, of_decide_eq_true rfl, ?_⟩
  | refine ⟨7, 2, _, _, _, rfl, rfl, rfl, rfl, of_decide_eq_true rfl, ?_⟩
  | refine ⟨8, 0, _, _, _, rfl, rfl, rfl, rfl, of_decide_eq_true rfl, ?_⟩
  | refine ⟨8, 1, _, _, _, rfl, rfl, rfl, rfl, of_decide_eq_true rfl, ?_⟩
  | refine ⟨8, 2, _, _, _, rfl, rfl, rfl, rfl, of_decide_eq_true rfl, ?_⟩
  | refine ⟨9, 0, _, _, _, rfl, rfl, rfl, rfl, of_decide_eq_true rfl, ?_⟩
  | refine ⟨9, 1, _, _, _, rfl, rfl, rfl, rfl, of_decide_eq_true rfl, ?_⟩
  | refine ⟨9, 2, _, _, _, rfl, rfl, rfl, rfl, of_decide_eq_true rfl, ?_⟩
  | refine ⟨10, 0, _, _, _, rfl, rfl, rfl, rfl, of_decide_eq_true rfl, ?_⟩
  | refine ⟨10, 1, _, _, _, rfl, rfl, rfl, rfl, of_decide_eq_true rfl, ?_⟩
  | refine ⟨10, 2, _, _, _, rfl, rfl, rfl, rfl, of_decide_eq_true rfl, ?_⟩
  | refine ⟨11, 0, _, _, _, rfl, rfl, rfl, rfl, of_decide_eq_true rfl, ?_⟩
  | refine ⟨11, 1, _, _, _, rfl, rfl, rfl, rfl, of_decide_eq_true rfl, ?_⟩
  | refine ⟨11, 2, _, _, _, rfl, rfl, rfl, rfl, of_decide_eq_true rfl, ?_⟩
  | refine ⟨12, 0, _, _, _, rfl, rfl, rfl, rfl, of_decide_eq_true rfl, ?_⟩
  | refine ⟨12, 1, _, _, _, rfl, rfl, rfl, rfl, of_decide_eq_true rfl, ?_⟩
  | refine ⟨12, 2, _, _, _, rfl, rfl, rfl, rfl, of_decide_eq_true rfl, ?_⟩
  | refine ⟨13, 0, _, _, _, rfl, rfl, rfl, rfl, of_decide_eq_true rfl, ?_⟩
  | refine ⟨13, 1, _, _, _, rfl, rfl, rfl, rfl, of_decide_eq_true rfl, ?_⟩
  | refine ⟨13, 2, _, _, _, rfl, rfl, rfl, rfl, of_decide_eq_true rfl, ?_⟩))
local macro_rules | `(tactic| walk_at "lst") => `(tactic| (first
  | refine cd_list (.inr (.inr ⟨0, _, rfl, rfl⟩)) ?_
  | refine cd_list (.inr (.inr ⟨1, _, rfl, rfl⟩)) ?_
  | refine cd_list (.inr (.inr ⟨2, _, rfl, rfl⟩)) ?_
  | refine cd_list (.inr (.inr ⟨3, _, rfl, rfl⟩)) ?_
  | refine cd_list (.inr (.inr ⟨4, _, rfl, rfl⟩)) ?_
  | refine cd_list (.inr (.inr ⟨5, _, rfl, rfl⟩)) ?_
  | refine cd_list (.inr (.inr ⟨6, _, rfl, rfl⟩)) ?_
  | refine cd_list (.inr (.inr ⟨7, _, rfl, rfl⟩)) ?_
  | refine cd_list (.inr (.inr ⟨8, _, rfl, rfl⟩)) ?_
  | refine cd_list (.inr (.inr ⟨9, _, rfl, rfl⟩)) ?_
  | refine cd_list (.inr (.inr ⟨10, _, rfl, rfl⟩)) ?_
  | refine cd_list (.inr (.inr ⟨11, _, rfl, rfl⟩)) ?_
  | refine cd_list (.inr (.inr ⟨12, _, rfl, rfl⟩)) ?_
  | refine cd_list (.inr (.inr ⟨13, _, rfl, rfl⟩)) ?_))
local macro_rules | `(tactic| walk_at "isi") => `(tactic| (first | refine cd_isi (k := true) rfl (by decide +kernel) ?_ | refine cd_isi (k := false) rfl (by decide +kernel) ?_))
local macro_rules | `(tactic| walk_at "size") => `(tactic| (first
  | exact (show 0 ≤ sizeLine by decide) | exact (show 1 ≤ sizeLine by decide) | exact (show 2 ≤ sizeLine by decide) | exact (show 3 ≤ sizeLine by decide) | exact (show 4 ≤ sizeLine by decide) | exact (show 5 ≤ sizeLine by decide) | exact (show 6 ≤ sizeLine by decide)))

section
variable {P : Program} {w : World} {K : PySem.W.Frag} {mg : Str → Option Value} {base : Heap}
/-! ### law k29 -/
def S_bounds : DS := fun ds M Φ => ∃ (l : Addr) (k n : Nat) (o : MO), ds = [.adr l] ∧ M[k]? = some (l, o) ∧ BoxM n o ∧ n < 2 ^ 30 ∧ ∀ (b0 b1 p0 p1 e0 e1 : Int) (o' : MO), (-20 ≤ b0 ∧ b0 ≤ 20 ∧ -20 ≤ b1 ∧ b1 ≤ 20) → (-20 ≤ p0 ∧ p0 ≤ 20 ∧ -20 ≤ p1 ∧ p1 ≤ 20) → (-20 ≤ e0 ∧ e0 ≤ 20 ∧ -20 ≤ e1 ∧ e1 ≤ 20) → BoxM (n + 9) o' → Φ (.lst [tp b0 b1, tp p0 p1, tp e0 e1]) (M.set k (l, o'))
theorem pick01 {x : D} {L : List D} (hL : ∀ y, y ∈ L → y = .int 0 ∨ y = .int 1) (h : x ∈ L) : ∃ d : Int, x = .int d ∧ 0 ≤ d ∧ d ≤ 1 := by
  rcases hL x h with rfl | rfl
  · exact ⟨0, rfl, by decide, by decide⟩
  · exact ⟨1, rfl, by decide, by decide⟩
abbrev s_Lbounds : Stmt := top 17
theorem sc_Lbounds : FnScope ["_law_box", "_law_found", "_law_part", "_law_low"] ["_law_box"] (defScope s_Lbounds) := ⟨rfl, rfl, rfl, by decide +kernel, rfl, by decide +kernel, by decide +kernel⟩
theorem ok_Lbounds {f : Addr} {fd : FuncData} (F : FunD K "_law_bounds" "_law_bounds" (defArgs s_Lbounds) (defBody s_Lbounds) (defScope s_Lbounds) [] [] f fd) (B : Bf mg) (hTake : HasFn P w K mg base 1 "_law_take" S_take) (hPick : HasFn P w K mg base 2 "_law_pick" S_pick) : FnOk P w K mg base CX0 3 f fd ["_law_box"] (spOf K S_bounds) := by
  refine fn_data (k := 2) F sc_Lbounds (fun ds M Φ h => ?_) (fun cdv A outer s H E ds M Φ hr h => ?_)
  · obtain ⟨l, k, n, o, rfl, hk, ho, hn, q⟩ := h
    all_goals rfl
  · obtain ⟨l, k, n, o, rfl, hk, ho, hn, q⟩ := h
    refine ws_set 1 sc_Lbounds.nd ?_
    refine we_lstO ?_
    refine wa_nil ?_
    refine ⟨(by walk_at "size"), fun l_1 => ?_⟩
    refine wu_R 3 (by passes_own) B.range ?_
    refine wa_cons ?_
    refine we_int ?_
    refine wa_nil ?_
    refine ⟨rfl, by decide, ?_⟩
    show GD _ _ _ _ _ _
    refine gd_name 2 sc_Lbounds.nd ?_
    refine ws_set 3 sc_Lbounds.nd ?_
    refine we_bin ?_
    refine wcf hTake (hr.mono (by decide)) ?_
    refine wa_cons ?_
    refine wv 0 rfl ?_
    refine wa_cons ?_
    refine we_int ?_
    refine wa_nil ?_
    refine ⟨l, k + 1, _, _, _, rfl, hk, ho, by omega, by decide, by decide, fun a0 o1 ha0 ha0' ho1 => ?_⟩
    rw [setBox0]
    refine we_int ?_
    walk_at "op"
    refine ws_expr ?_
    refine we_append ?_
    refine wv 1 rfl ?_
    refine ⟨_, 0, _, rfl, rfl, ?_⟩
    refine we_tup ?_
    refine wa_cons ?_
    refine wv 3 rfl ?_
    refine wa_cons ?_
    refine we_bin ?_
    refine we_bin ?_
    refine wv 3 rfl ?_
    refine wcf hTake (hr.mono (by decide)) ?_
    refine wa_cons ?_
    refine wv 0 rfl ?_
    refine wa_cons ?_
    refine we_int ?_
    refine wa_nil ?_
    refine ⟨l, k + 1, _, _, _, rfl, getset hk, ho1, by omega, by decide, by decide, fun b0 o2 hb0 hb0' ho2 => ?_⟩
    rw [setBox]
    walk_at "op"
    refine wcf hPick (hr.mono (by decide)) ?_
    refine wa_cons ?_
    refine wv 0 rfl ?_
    refine wa_cons ?_
    refine we_lst ?_
    refine wa_cons ?_
    refine we_int ?_
    refine wa_cons ?_
    refine we_int ?_
    refine wa_cons ?_
    refine we_int ?_
    refine wa_cons ?_
    refine we_int ?_
    refine wa_cons ?_
    refine we_int ?_
    refine wa_nil ?_
    refine ⟨(by walk_at "size"), ?_⟩
    refine wa_nil ?_
    refine ⟨l, k + 1, _, _, _, .inl rfl, getset hk, ho2, by omega, of_decide_eq_true rfl, of_decide_eq_true rfl, fun x o3 hx ho3 => ?_⟩
    obtain ⟨d0, rfl, hd0, hd0'⟩ := pick01 (by intro y hy; simp only [List.mem_cons, List.not_mem_nil, or_false] at hy; rcases hy with rfl | rfl | rfl | rfl | rfl | rfl <;> first | exact .inl rfl | exact .inr rfl) hx
    rw [setBox]
    walk_at "op"
    refine wa_nil ?_
    refine ⟨(by walk_at "size"), ?_⟩
    refine ⟨0, _, rfl, of_decide_eq_true rfl, ?_⟩
    refine ws_wk (Γ' := [some (.adr l), some (.adr l_1), none, none]) (M' := (l_1, .lst [tp (a0 - 3) (a0 - 3 + b0 - d0)]) :: M.set k (l, o3)) (by repeat (first | exact wkE | refine wkS ?_ | refine wkN ?_)) (List.Sublist.refl _) ?_
    refine ws_nil ?_
    show GD _ _ _ _ _ _
    refine gd_name 2 sc_Lbounds.nd ?_
    refine ws_set 3 sc_Lbounds.nd ?_
    refine we_bin ?_
    refine wcf hTake (hr.mono (by decide)) ?_
    refine wa_cons ?_
    refine wv 0 rfl ?_
    refine wa_cons ?_
    refine we_int ?_
    refine wa_nil ?_
    refine ⟨l, k + 1, _, _, _, rfl, getset hk, ho3, by omega, by decide, by decide, fun a1 o4 ha1 ha1' ho4 => ?_⟩
    rw [setBox]
    refine we_int ?_
    walk_at "op"
    refine ws_expr ?_
    refine we_append ?_
    refine wv 1 rfl ?_
    refine ⟨_, 0, _, rfl, rfl, ?_⟩
    refine we_tup ?_
    refine wa_cons ?_
    refine wv 3 rfl ?_
    refine wa_cons ?_
    refine we_bin ?_
    refine we_bin ?_
    refine wv 3 rfl ?_
    refine wcf hTake (hr.mono (by decide)) ?_
    refine wa_cons ?_
    refine wv 0 rfl ?_
    refine wa_cons ?_
    refine we_int ?_
    refine wa_nil ?_
    refine ⟨l, k + 1, _, _, _, rfl, getset hk, ho4, by omega, by decide, by decide, fun b1 o5 hb1 hb1' ho5 => ?_⟩
    rw [setBox]
    walk_at "op"
    refine wcf hPick (hr.mono (by decide)) ?_
    refine wa_cons ?_
    refine wv 0 rfl ?_
    refine wa_cons ?_
    refine we_lst ?_
    refine wa_cons ?_
    refine we_int ?_
    refine wa_cons ?_
    refine we_int ?_
    refine wa_cons ?_
    refine we_int ?_
    refine wa_cons ?_
    refine we_int ?_
    refine wa_cons ?_
    refine we_int ?_
    refine wa_nil ?_
    refine ⟨(by walk_at "size"), ?_⟩
    refine wa_nil ?_
    refine ⟨l, k + 1, _, _, _, .inl rfl, getset hk, ho5, by omega, of_decide_eq_true rfl, of_decide_eq_true rfl, fun x o6 hx ho6 => ?_⟩
    obtain ⟨d1, rfl, hd1, hd1'⟩ := pick01 (by intro y hy; simp only [List.mem_cons, List.not_mem_nil, or_false] at hy; rcases hy with rfl | rfl | rfl | rfl | rfl | rfl <;> first | exact .inl rfl | exact .inr rfl) hx
    rw [setBox]
    walk_at "op"
    refine wa_nil ?_
    refine ⟨(by walk_at "size"), ?_⟩
    refine ⟨0, _, rfl, of_decide_eq_true rfl, ?_⟩
    refine ws_wk (Γ' := [some (.adr l), some (.adr l_1), none, none]) (M' := (l_1, .lst [tp (a0 - 3) (a0 - 3 + b0 - d0), tp (a1 - 3) (a1 - 3 + b1 - d1)]) :: M.set k (l, o6)) (by repeat (first | exact wkE | refine wkS ?_ | refine wkN ?_)) (List.Sublist.refl _) ?_
    refine ws_nil ?_
    show GD _ _ _ _ _ _
    refine gd_name 2 sc_Lbounds.nd ?_
    refine ws_set 3 sc_Lbounds.nd ?_
    refine we_bin ?_
    refine wcf hTake (hr.mono (by decide)) ?_
    refine wa_cons ?_
    refine wv 0 rfl ?_
    refine wa_cons ?_
    refine we_int ?_
    refine wa_nil ?_
    refine ⟨l, k + 1, _, _, _, rfl, getset hk, ho6, by omega, by decide, by decide, fun a2 o7 ha2 ha2' ho7 => ?_⟩
    rw [setBox]
    refine we_int ?_
    walk_at "op"
    refine ws_expr ?_
    refine we_append ?_
    refine wv 1 rfl ?_
    refine ⟨_, 0, _, rfl, rfl, ?_⟩
    refine we_tup ?_
    refine wa_cons ?_
    refine wv 3 rfl ?_
    refine wa_cons ?_
    refine we_bin ?_
    refine we_bin ?_
    refine wv 3 rfl ?_
    refine wcf hTake (hr.mono (by decide)) ?_
    refine wa_cons ?_
    refine wv 0 rfl ?_
    refine wa_cons ?_
    refine we_int ?_
    refine wa_nil ?_
    refine ⟨l, k + 1, _, _, _, rfl, getset hk, ho7, by omega, by decide, by decide, fun b2 o8 hb2 hb2' ho8 => ?_⟩
    rw [setBox]
    walk_at "op"
    refine wcf hPick (hr.mono (by decide)) ?_
    refine wa_cons ?_
    refine wv 0 rfl ?_
    refine wa_cons ?_
    refine we_lst ?_
    refine wa_cons ?_
    refine we_int ?_
    refine wa_cons ?_
    refine we_int ?_
    refine wa_cons ?_
    refine we_int ?_
    refine wa_cons ?_
    refine we_int ?_
    refine wa_cons ?_
    refine we_int ?_
    refine wa_nil ?_
    refine ⟨(by walk_at "size"), ?_⟩
    refine wa_nil ?_
    refine ⟨l, k + 1, _, _, _, .inl rfl, getset hk, ho8, by omega, of_decide_eq_true rfl, of_decide_eq_true rfl, fun x o9 hx ho9 => ?_⟩
    obtain ⟨d2, rfl, hd2, hd2'⟩ := pick01 (by intro y hy; simp only [List.mem_cons, List.not_mem_nil, or_false] at hy; rcases hy with rfl | rfl | rfl | rfl | rfl | rfl <;> first | exact .inl rfl | exact .inr rfl) hx
    rw [setBox]
    walk_at "op"
    refine wa_nil ?_
    refine ⟨(by walk_at "size"), ?_⟩
    refine ⟨0, _, rfl, of_decide_eq_true rfl, ?_⟩
    refine ws_wk (Γ' := [some (.adr l), some (.adr l_1), none, none]) (M' := (l_1, .lst [tp (a0 - 3) (a0 - 3 + b0 - d0), tp (a1 - 3) (a1 - 3 + b1 - d1), tp (a2 - 3) (a2 - 3 + b2 - d2)]) :: M.set k (l, o9)) (by repeat (first | exact wkE | refine wkS ?_ | refine wkN ?_)) (List.Sublist.refl _) ?_
    refine ws_nil ?_
    show WS _ _ _ _ _
    refine ws_freeze (i := 1) rfl ?_
    refine ws_ret ?_
    refine wv 1 rfl ?_
    exact q _ _ _ _ _ _ _ (by omega) (by omega) (by omega) ho9
/-! ### law k28 -/
theorem setSame {M : Mem} {k : Nat} {x : Addr × MO} (h : M[k]? = some x) : M.set k x = M := by
  obtain ⟨hk, e⟩ := List.getElem?_eq_some_iff.mp h
  rw [← e, List.set_getElem_self]
def S_sorted : DS := fun ds M Φ => ∃ ps : List (Int × Int), ds = [psD ps] ∧ ps.length ≤ 6000000 ∧ (∀ p, p ∈ ps → (-500 ≤ p.1 ∧ p.1 < 500) ∧ -500 ≤ p.2 ∧ p.2 < 500) ∧ ∀ qs, qs.Pairwise lex → (∀ x, x ∈ qs ↔ x ∈ ps) → Φ (psD qs) M
def S_changed (C : Addr) : DS := fun ds M Φ => ∃ (l : Addr) (k n : Nat) (o : MO) (t : Option B3) (Bo : Int), ds = [.adr l, spanD C t, psD (listL t)] ∧ M[k]? = some (l, o) ∧ BoxM n o ∧ n < 2 ^ 30 ∧ CanonO t ∧ SmO Bo t ∧ 0 ≤ Bo ∧ Bo ≤ 300 ∧ ∀ t' o', CanonO t' → SmO (Bo + 10) t' → BoxM (n + 5) o' → Φ (.tup [spanD C t', psD (listL t')]) (M.set k (l, o'))
theorem atI_gl {fd : List (Int × Int)} {y : Int × Int} (h : fd.getLast? = some y) : atI (fd.map pD) (-1) = some (pD y) := by
  obtain ⟨r, hr⟩ := List.getLast?_eq_some_iff.mp h
  rw [hr, List.map_append]
  exact atI_last _ _
theorem take_snoc {L : List Int} {i : Nat} {c : Int} (h : L[i]? = some c) : L.take (i + 1) = L.take i ++ [c] := by
  rw [List.take_add_one, h]
  rfl
theorem take_sort {L : List Int} {i : Nat} {c : Int} (h : L[i]? = some c) (s : L.Pairwise (· ≤ ·)) : (L.take i ++ [c]).Pairwise (· ≤ ·) := by
  rw [← take_snoc h]
  exact s.sublist (List.take_sublist _ _)
theorem SmO.up {B B' : Int} {t : Option B3} (h : SmO B t) (hb : B ≤ B') : SmO B' t := fun u hu => by
  have z := h u hu
  unfold B3.sm at z ⊢
  omega
theorem BoxM.up {n m : Nat} {o : MO} (h : BoxM n o) (hm : n ≤ m) : BoxM m o := by
  obtain ⟨g, s, c, e, h1, h2, h3, h4, h5⟩ := h
  exact ⟨g, s, c, e, h1, h2, h3, h4, by omega⟩
theorem list_sz {t : Option B3} (s : SmO 400 t) : (listL t).length ≤ 1000000 := by
  cases t with
  | none => exact Nat.zero_le _
  | some t =>
    have hs := s t rfl
    unfold B3.sm at hs
    have z := lrows_len (t := t) (i := (t.b1 + 1 - t.b0).toNat) (by omega) (by omega)
    rw [lrows_all, List.length_map] at z
    exact z
theorem mem_sm {B : Int} {t : Option B3} {p : Int × Int} (s : SmO B t) (h : p ∈ listL t) : (-B ≤ p.1 ∧ p.1 ≤ B) ∧ -B ≤ p.2 ∧ p.2 ≤ B := by
  obtain ⟨i, j⟩ := p
  have z := mem_listL.mp h
  cases t with
  | none => exact z.elim
  | some t =>
    have hs := s t rfl
    have hz : mem t i j := z
    unfold B3.sm at hs
    unfold mem boxM at hz
    dsimp only
    omega
theorem flatp_len {f : Int × Int → List (Int × Int)} {c : Nat} (h : ∀ p, (f p).length ≤ c) : ∀ L : List (Int × Int), (L.flatMap f).length ≤ L.length * c
  | [] => Nat.zero_le _
  | p :: L => by
    rw [List.flatMap_cons, List.length_append, List.length_cons, Nat.succ_mul]
    have z := flatp_len h L
    have y := h p
    omega
def fstep (b lo hi : Int) (p : Int × Int) : List (Int × Int) := (rn lo (hi + 1 - lo).toNat).map fun s => (p.1 + b, p.2 + b + s)
def fblur (bl : Int) (p : Int × Int) : List (Int × Int) := (rn (0 - bl) (bl + 1 - (0 - bl)).toNat).map fun e => (p.2 - e, p.2)
def fsight (lo hi bl : Int) (p : Int × Int) : List (Int × Int) := if lo ≤ p.2 ∧ p.2 ≤ hi then fblur bl p else []
theorem mem_rn {lo : Int} {n : Nat} {s : Int} : s ∈ rn lo n ↔ lo ≤ s ∧ s < lo + (n : Int) := by
  unfold rn
  rw [List.mem_map]
  constructor
  · rintro ⟨k, hk, rfl⟩
    rw [List.mem_range] at hk
    omega
  · intro h
    exact ⟨(s - lo).toNat, List.mem_range.mpr (by omega), by omega⟩
theorem mem_fstep {b lo hi : Int} {p x : Int × Int} : x ∈ fstep b lo hi p ↔ ∃ s, lo ≤ s ∧ s ≤ hi ∧ x = (p.1 + b, p.2 + b + s) := by
  unfold fstep
  rw [List.mem_map]
  constructor
  · rintro ⟨s, hs, rfl⟩
    have := mem_rn.mp hs
    exact ⟨s, by omega, by omega, rfl⟩
  · rintro ⟨s, h1, h2, rfl⟩
    exact ⟨s, mem_rn.mpr (by omega), rfl⟩
theorem mem_fsight {lo hi bl : Int} {p x : Int × Int} : x ∈ fsight lo hi bl p ↔ (lo ≤ p.2 ∧ p.2 ≤ hi) ∧ ∃ e, -bl ≤ e ∧ e ≤ bl ∧ x = (p.2 - e, p.2) := by
  unfold fsight
  split
  · rename_i h
    unfold fblur
    rw [List.mem_map]
    constructor
    · rintro ⟨e, he, rfl⟩
      have := mem_rn.mp he
      exact ⟨h, e, by omega, by omega, rfl⟩
    · rintro ⟨_, e, h1, h2, rfl⟩
      exact ⟨e, mem_rn.mpr (by omega), rfl⟩
  · rename_i h
    exact ⟨fun z => (by cases z), fun z => absurd z.1 h⟩
theorem fstep_len {b lo hi : Int} (h : hi ≤ lo + 3) (p : Int × Int) : (fstep b lo hi p).length ≤ 5 := by
  unfold fstep
  rw [List.length_map, rn_len]
  omega
theorem fblur_len {bl : Int} (h : bl ≤ 2) (p : Int × Int) : (fblur bl p).length ≤ 5 := by
  unfold fblur
  rw [List.length_map, rn_len]
  omega
theorem fsight_len {lo hi bl : Int} (h : bl ≤ 2) (p : Int × Int) : (fsight lo hi bl p).length ≤ 5 := by
  unfold fsight
  split
  · exact fblur_len h p
  · exact Nat.zero_le _
theorem pairs_sz {t : Option B3} (s : SmO 400 t) {f : Int × Int → List (Int × Int)} (h : ∀ p, (f p).length ≤ 5) (i : Nat) : ((((listL t).take i).flatMap f).map pD).length ≤ 5000000 := by
  have z := flatp_len h ((listL t).take i)
  have y := list_sz s
  have x : ((listL t).take i).length ≤ 1000000 := Nat.le_trans (by rw [List.length_take]; omega) y
  have v : ((listL t).take i).length * 5 ≤ 1000000 * 5 := Nat.mul_le_mul_right _ x
  rw [List.length_map]
  omega
theorem all_sz {t : Option B3} (s : SmO 400 t) {f : Int × Int → List (Int × Int)} (h : ∀ p, (f p).length ≤ 5) : ((listL t).flatMap f).length ≤ 6000000 := by
  have z := pairs_sz s h (listL t).length
  rw [List.take_length, List.length_map] at z
  omega
theorem step_set {t : Option B3} (c : CanonO t) {b lo hi : Int} (h : lo ≤ hi) {qs : List (Int × Int)} (h1 : qs.Pairwise lex) (h2 : ∀ x, x ∈ qs ↔ x ∈ (listL t).flatMap (fstep b lo hi)) : qs = listL (stepT t b lo hi) := by
  refine lex_ext h1 sort_listL fun i j => ?_
  rw [h2, mem_listL, mem_step c h, List.mem_flatMap]
  constructor
  · rintro ⟨⟨i', j'⟩, hp, hx⟩
    obtain ⟨s, a1, a2, e⟩ := mem_fstep.mp hx
    rw [Prod.mk.injEq] at e
    exact ⟨i', j', s, mem_listL.mp hp, a1, a2, e.1, e.2⟩
  · rintro ⟨i', j', s, hm, a1, a2, e1, e2⟩
    exact ⟨(i', j'), mem_listL.mpr hm, mem_fstep.mpr ⟨s, a1, a2, by rw [e1, e2]⟩⟩
theorem sight_set {t : Option B3} (c : CanonO t) {lo hi bl : Int} (h : 0 ≤ bl) {qs : List (Int × Int)} (h1 : qs.Pairwise lex) (h2 : ∀ x, x ∈ qs ↔ x ∈ (listL t).flatMap (fsight lo hi bl)) : qs = listL (sightT t (some lo) (some hi) bl) := by
  refine lex_ext h1 sort_listL fun i j => ?_
  rw [h2, mem_listL, mem_sight c h, List.mem_flatMap]
  constructor
  · rintro ⟨⟨i', j'⟩, hp, hx⟩
    obtain ⟨⟨a1, a2⟩, e, a3, a4, ee⟩ := mem_fsight.mp hx
    dsimp only at a1 a2 ee
    rw [Prod.mk.injEq] at ee
    obtain ⟨e1, e2⟩ := ee
    subst e2
    exact ⟨i', e, mem_listL.mp hp, a1, a2, a3, a4, e1⟩
  · rintro ⟨i', e, hm, a1, a2, a3, a4, e1⟩
    exact ⟨(i', j), mem_listL.mpr hm, mem_fsight.mpr ⟨⟨a1, a2⟩, e, a3, a4, by rw [e1]⟩⟩
theorem step_in {t : Option B3} {B : Int} (s : SmO B t) (hB : B ≤ 300) {b lo hi : Int} (hb : -1 ≤ b ∧ b ≤ 1) (hl : -9 ≤ lo ∧ hi ≤ 9) : ∀ p, p ∈ (listL t).flatMap (fstep b lo hi) → (-500 ≤ p.1 ∧ p.1 < 500) ∧ -500 ≤ p.2 ∧ p.2 < 500 := fun p hp => by
  obtain ⟨x, hx, hy⟩ := List.mem_flatMap.mp hp
  obtain ⟨z, a1, a2, e⟩ := mem_fstep.mp hy
  have := mem_sm s hx
  rw [e]
  dsimp only
  omega
theorem sight_in {t : Option B3} {B : Int} (s : SmO B t) (hB : B ≤ 300) {lo hi bl : Int} (hb : bl ≤ 2) : ∀ p, p ∈ (listL t).flatMap (fsight lo hi bl) → (-500 ≤ p.1 ∧ p.1 < 500) ∧ -500 ≤ p.2 ∧ p.2 < 500 := fun p hp => by
  obtain ⟨x, hx, hy⟩ := List.mem_flatMap.mp hp
  obtain ⟨_, z, a1, a2, e⟩ := mem_fsight.mp hy
  have := mem_sm s hx
  rw [e]
  dsimp only
  omega
theorem bhd_done {ps : List (Int × Int)} {fd : List (Int × Int)} {cs : List Int} {n : Nat} (hn : n = cs.length) (h : Bhd (cs.take n) fd) : Bhd cs fd := by
  rw [hn, List.take_length] at h
  exact h
theorem fstep_D {b lo hi : Int} {p : Int × Int} : (fstep b lo hi p).map pD = (rn lo (hi + 1 - lo).toNat).map fun z => tp (p.1 + b) (p.2 + b + z) := by
  unfold fstep
  rw [List.map_map]
  rfl
theorem fblur_D {bl : Int} {p : Int × Int} : (fblur bl p).map pD = (rn (0 - bl) (bl + 1 - (0 - bl)).toNat).map fun z => tp (p.2 - z) p.2 := by
  unfold fblur
  rw [List.map_map]
  rfl
theorem fsight_yes {lo hi bl : Int} {p : Int × Int} (h : lo ≤ p.2 ∧ p.2 ≤ hi) : fsight lo hi bl p = fblur bl p := if_pos h
theorem fsight_no {lo hi bl : Int} {p : Int × Int} (h : ¬ (lo ≤ p.2 ∧ p.2 ≤ hi)) : fsight lo hi bl p = [] := if_neg h
abbrev s_Lsorted : Stmt := top 20
theorem sc_Lsorted : FnScope ["_law_pairs", "_law_codes", "_law_one", "_law_two", "_law_found", "_law_code", "_law_pair"] ["_law_pairs"] (defScope s_Lsorted) := ⟨rfl, rfl, rfl, by decide +kernel, rfl, by decide +kernel, by decide +kernel⟩
theorem ok_Lsorted {f : Addr} {fd : FuncData} (F : FunD K "_law_sorted" "_law_sorted" (defArgs s_Lsorted) (defBody s_Lsorted) (defScope s_Lsorted) [] [] f fd) (B : Bf mg) : FnOk P w K mg base CX0 1 f fd ["_law_pairs"] (spOf K S_sorted) := by
  refine fn_data (k := 0) F sc_Lsorted (fun ds M Φ h => ?_) (fun cdv A outer s H E ds M Φ hr h => ?_)
  · obtain ⟨ps, rfl, hlen, hps, q⟩ := h
    all_goals rfl
  · obtain ⟨ps, rfl, hlen, hps, q⟩ := h
    refine ws_set 1 sc_Lsorted.nd ?_
    refine wcB B.sorted boot_sorted ?_
    refine wa_cons ?_
    refine we_frz (we_lcL2 (own := [("_law_one", 2), ("_law_two", 3)]) (j := 2) (j2 := 3) sc_Lsorted.nd ?_ (by decide) (by decide) (blkOk_by (N := ["_law_pairs", "_law_codes", "_law_one", "_law_two", "_law_found", "_law_code", "_law_pair"]) (sc := defScope s_Lsorted) (by decide +kernel)) rfl (fun _ _ _ _ _ => pg_tup rfl (pgs_cons (pg_name (i := 2) sc_Lsorted.nd rfl (Or.inl rfl)) (pgs_cons (pg_name (i := 3) sc_Lsorted.nd rfl (Or.inl rfl)) pgs_nil))) (by intro _; rfl))
    refine wv 0 rfl ?_
    refine ⟨fun i out M' => out = ((ps.take i).map enc).map D.int ∧ M = M', _, rfl, ⟨rfl, rfl⟩, ?_, ?_⟩
    · rintro i y l2 out M' hy ⟨rfl, rfl⟩
      obtain ⟨z, hz, rfl⟩ := getMap hy
      have hzr := hps z (List.mem_of_getElem? hz)
      refine ⟨.int z.1, .int z.2, rfl, fun s H C cl fp => wts_nil ⟨fun _ s H C cl fp => ?_, fun z => by cases z⟩⟩
      refine we_bin ?_
      refine we_bin ?_
      refine wcT B.int boot_int ?_
      refine wa_cons ?_
      refine we_bin ?_
      refine wv 2 rfl ?_
      refine we_int ?_
      walk_at "op"
      refine wa_nil ?_
      refine cd_int ?_
      refine we_int ?_
      refine od_mulW (mulB ⟨by omega, by omega⟩ ⟨by omega, by omega⟩) ?_
      refine wcT B.int boot_int ?_
      refine wa_cons ?_
      refine we_bin ?_
      refine wv 3 rfl ?_
      refine we_int ?_
      walk_at "op"
      refine wa_nil ?_
      refine cd_int ?_
      walk_at "op"
      refine ⟨_, rfl, ?_, ?_, rfl⟩
      · rw [List.length_map, List.length_map, List.length_take]
        have he : sizeLine = 2 ^ 24 := rfl
        omega
      · rw [List.take_add_one, hz, List.map_append, List.map_append]
        rfl
    · rintro l2 out M' ⟨rfl, rfl⟩
      refine ⟨l2, _, _, rfl, rfl, ?_⟩
      rw [List.length_map, List.take_length]
      refine wa_nil ?_
      refine cd_sorted (ns := ps.map enc) ?_
      intro ns hperm hsort
      refine ws_set 4 sc_Lsorted.nd ?_
      refine we_lstO ?_
      refine wa_nil ?_
      refine ⟨(by walk_at "size"), fun l_1 => ?_⟩
      refine ws_cons (w1_forL (by passes_own) rfl ?_)
      refine wv 1 rfl ?_
      refine ⟨fun i Γ M2 => Γ = [some (psD ps), some (.lst (ns.map D.int)), none, none, some (.adr l_1), none, none] ∧ ∃ fd : List (Int × Int), Bhd (ns.take i) fd ∧ fd.length ≤ i ∧ M2 = (l_1, .lst (fd.map pD)) :: M, _, rfl, ⟨rfl, [], bhd_nil, Nat.le_refl _, rfl⟩, ?_, ?_⟩
      · rintro i y Γ' M' hy ⟨rfl, fd, hB, hfl, rfl⟩
        obtain ⟨c, hc, rfl⟩ := getMap hy
        have hil := (List.getElem?_eq_some_iff.mp hc).1
        have he : sizeLine = 2 ^ 24 := rfl
        have hnl := hperm.length_eq
        rw [List.length_map] at hnl
        rcases hgl : fd.getLast? with _ | y
        · have hf0 : fd = [] := List.getLast?_eq_none_iff.mp hgl
          have hfe : decide (fd = []) = true := decide_eq_true hf0
          refine gd_name 5 sc_Lsorted.nd ?_
          refine ws_set 6 sc_Lsorted.nd ?_
          refine we_tup ?_
          refine wa_cons ?_
          refine we_bin ?_
          refine we_bin ?_
          refine wv 5 rfl ?_
          refine we_int ?_
          refine od_fdiv ⟨by decide, by decide⟩ ?_
          refine we_int ?_
          walk_at "op"
          refine wa_cons ?_
          refine we_bin ?_
          refine we_bin ?_
          refine wcT B.int boot_int ?_
          refine wa_cons ?_
          refine wv 5 rfl ?_
          refine wa_nil ?_
          refine cd_int ?_
          refine we_int ?_
          refine od_mod (by decide) ?_
          refine we_int ?_
          walk_at "op"
          refine wa_nil ?_
          refine ⟨(by walk_at "size"), ?_⟩
          refine ws_expr ?_
          refine we_extend ?_
          refine wv 4 rfl ?_
          refine ⟨_, 0, _, rfl, rfl, ?_⟩
          refine we_if ?_
          refine wt_bool ?_
          refine ww_and ?_
          refine wt_cmp ?_ (nomark _)
          refine wv 4 rfl ?_
          refine we_lstO ?_
          refine wa_nil ?_
          refine ⟨(by walk_at "size"), fun l_2 => ?_⟩
          refine od_neP hr.units (as := fd) (bs := []) (.inr ⟨1, l_1, _, rfl, rfl, rfl⟩) (.inr ⟨0, l_2, _, rfl, rfl, rfl⟩) ?_
          rw [hfe]
          refine ⟨_, rfl, ?_⟩
          refine ⟨fun hb => ?_, fun hb => ?_⟩
          · walk_at "dead"
          · walk_at "tidy"
            refine ⟨fun hb => ?_, fun hb => ?_⟩
            · walk_at "dead"
            · walk_at "tidy"
              refine we_lstO ?_
              refine wa_cons ?_
              refine wv 6 rfl ?_
              refine wa_nil ?_
              refine ⟨(by walk_at "size"), fun l_3 => ?_⟩
              refine ⟨2, 0, _, _, _, rfl, rfl, rfl, (by simp only [List.length_map, List.length_cons, List.length_nil]; omega), ?_⟩
              refine ws_wk (Γ' := [some (psD ps), some (.lst (ns.map D.int)), none, none, some (.adr l_1), none, none]) (M' := (l_1, .lst (fd.map pD ++ [pD (dec c)])) :: M) (by repeat (first | exact wkE | refine wkS ?_ | refine wkN ?_)) (.cons _ (.cons _ (.refl _))) (ws_nil ⟨rfl, _, (by rw [take_snoc hc]; exact bhd_more hB (take_sort hc hsort) (by rw [hgl]; exact fun z => by cases z)), (by rw [List.length_append]; exact Nat.succ_le_succ hfl), by rw [List.map_append]; rfl⟩)
        · have hfe : decide (fd = []) = false := decide_eq_false fun z => by rw [z] at hgl; cases hgl
          rcases Decidable.em (y = dec c) with hyc | hyc
          · have hye : decide (y = dec c) = true := decide_eq_true hyc
            refine gd_name 5 sc_Lsorted.nd ?_
            refine ws_set 6 sc_Lsorted.nd ?_
            refine we_tup ?_
            refine wa_cons ?_
            refine we_bin ?_
            refine we_bin ?_
            refine wv 5 rfl ?_
            refine we_int ?_
            refine od_fdiv ⟨by decide, by decide⟩ ?_
            refine we_int ?_
            walk_at "op"
            refine wa_cons ?_
            refine we_bin ?_
            refine we_bin ?_
            refine wcT B.int boot_int ?_
            refine wa_cons ?_
            refine wv 5 rfl ?_
            refine wa_nil ?_
            refine cd_int ?_
            refine we_int ?_
            refine od_mod (by decide) ?_
            refine we_int ?_
            walk_at "op"
            refine wa_nil ?_
            refine ⟨(by walk_at "size"), ?_⟩
            refine ws_expr ?_
            refine we_extend ?_
            refine wv 4 rfl ?_
            refine ⟨_, 0, _, rfl, rfl, ?_⟩
            refine we_if ?_
            refine wt_bool ?_
            refine ww_and ?_
            refine wt_cmp ?_ (nomark _)
            refine wv 4 rfl ?_
            refine we_lstO ?_
            refine wa_nil ?_
            refine ⟨(by walk_at "size"), fun l_2 => ?_⟩
            refine od_neP hr.units (as := fd) (bs := []) (.inr ⟨1, l_1, _, rfl, rfl, rfl⟩) (.inr ⟨0, l_2, _, rfl, rfl, rfl⟩) ?_
            rw [hfe]
            refine ⟨_, rfl, ?_⟩
            refine ⟨fun hb => ?_, fun hb => ?_⟩
            · walk_at "tidy"
              refine ww_and1 ?_
              refine wt_cmp ?_ (nomark _)
              refine we_ix ?_ (fun _ _ => rfl)
              refine wv 4 rfl ?_
              refine we_un ?_
              refine we_int ?_
              refine ud_neg ?_
              refine ix_ownI (k := 1) rfl (atI_gl hgl) ?_
              refine wv 6 rfl ?_
              refine od_eqD (x' := pD y) (y' := pD (dec c)) hr.units (.inl rfl) (.inl rfl) (shp_p _) (shp_p _) ?_
              rw [eqv_p, hye]
              refine ⟨_, rfl, ?_⟩
              refine ⟨fun hb => ?_, fun hb => ?_⟩
              · walk_at "tidy"
                refine we_lstO ?_
                refine wa_nil ?_
                refine ⟨(by walk_at "size"), fun l_3 => ?_⟩
                refine ⟨2, 0, _, _, _, rfl, rfl, rfl, (by simp only [List.length_map, List.length_cons, List.length_nil]; omega), ?_⟩
                refine ws_wk (Γ' := [some (psD ps), some (.lst (ns.map D.int)), none, none, some (.adr l_1), none, none]) (M' := (l_1, .lst (fd.map pD ++ [])) :: M) (by repeat (first | exact wkE | refine wkS ?_ | refine wkN ?_)) (.cons _ (.cons _ (.refl _))) (ws_nil ⟨rfl, _, (by rw [take_snoc hc]; exact bhd_keep hB (by rw [hgl, hyc])), Nat.le_succ_of_le hfl, by rw [List.append_nil]⟩)
              · walk_at "dead"
            · walk_at "dead"
          · have hye : decide (y = dec c) = false := decide_eq_false hyc
            refine gd_name 5 sc_Lsorted.nd ?_
            refine ws_set 6 sc_Lsorted.nd ?_
            refine we_tup ?_
            refine wa_cons ?_
            refine we_bin ?_
            refine we_bin ?_
            refine wv 5 rfl ?_
            refine we_int ?_
            refine od_fdiv ⟨by decide, by decide⟩ ?_
            refine we_int ?_
            walk_at "op"
            refine wa_cons ?_
            refine we_bin ?_
            refine we_bin ?_
            refine wcT B.int boot_int ?_
            refine wa_cons ?_
            refine wv 5 rfl ?_
            refine wa_nil ?_
            refine cd_int ?_
            refine we_int ?_
            refine od_mod (by decide) ?_
            refine we_int ?_
            walk_at "op"
            refine wa_nil ?_
            refine ⟨(by walk_at "size"), ?_⟩
            refine ws_expr ?_
            refine we_extend ?_
            refine wv 4 rfl ?_
            refine ⟨_, 0, _, rfl, rfl, ?_⟩
            refine we_if ?_
            refine wt_bool ?_
            refine ww_and ?_
            refine wt_cmp ?_ (nomark _)
            refine wv 4 rfl ?_
            refine we_lstO ?_
            refine wa_nil ?_
            refine ⟨(by walk_at "size"), fun l_2 => ?_⟩
            refine od_neP hr.units (as := fd) (bs := []) (.inr ⟨1, l_1, _, rfl, rfl, rfl⟩) (.inr ⟨0, l_2, _, rfl, rfl, rfl⟩) ?_
            rw [hfe]
            refine ⟨_, rfl, ?_⟩
            refine ⟨fun hb => ?_, fun hb => ?_⟩
            · walk_at "tidy"
              refine ww_and1 ?_
              refine wt_cmp ?_ (nomark _)
              refine we_ix ?_ (fun _ _ => rfl)
              refine wv 4 rfl ?_
              refine we_un ?_
              refine we_int ?_
              refine ud_neg ?_
              refine ix_ownI (k := 1) rfl (atI_gl hgl) ?_
              refine wv 6 rfl ?_
              refine od_eqD (x' := pD y) (y' := pD (dec c)) hr.units (.inl rfl) (.inl rfl) (shp_p _) (shp_p _) ?_
              rw [eqv_p, hye]
              refine ⟨_, rfl, ?_⟩
              refine ⟨fun hb => ?_, fun hb => ?_⟩
              · walk_at "dead"
              · walk_at "tidy"
                refine we_lstO ?_
                refine wa_cons ?_
                refine wv 6 rfl ?_
                refine wa_nil ?_
                refine ⟨(by walk_at "size"), fun l_3 => ?_⟩
                refine ⟨2, 0, _, _, _, rfl, rfl, rfl, (by simp only [List.length_map, List.length_cons, List.length_nil]; omega), ?_⟩
                refine ws_wk (Γ' := [some (psD ps), some (.lst (ns.map D.int)), none, none, some (.adr l_1), none, none]) (M' := (l_1, .lst (fd.map pD ++ [pD (dec c)])) :: M) (by repeat (first | exact wkE | refine wkS ?_ | refine wkN ?_)) (.cons _ (.cons _ (.refl _))) (ws_nil ⟨rfl, _, (by rw [take_snoc hc]; exact bhd_more hB (take_sort hc hsort) (by rw [hgl]; exact fun z => hyc (Option.some.inj z))), (by rw [List.length_append]; exact Nat.succ_le_succ hfl), by rw [List.map_append]; rfl⟩)
            · walk_at "dead"
      · rintro Γ' M' ⟨rfl, fd, hB, hfl, rfl⟩
        obtain ⟨hs1, hs2⟩ := bhd_end (fun p hp => (hps p hp).2) hperm (bhd_done (ps := ps) (by rw [List.length_map]) hB)
        refine ws_freeze (i := 4) rfl ?_
        refine ws_ret ?_
        refine wv 4 rfl ?_
        exact q _ hs1 hs2
abbrev s_Lchanged : Stmt := top 21
theorem sc_Lchanged : FnScope ["_law_box", "_law_made", "_law_pairs", "_law_by", "_law_low", "_law_high", "_law_found", "_law_b", "_law_t", "_law_s", "_law_blur", "_law_e"] ["_law_box", "_law_made", "_law_pairs"] (defScope s_Lchanged) := ⟨rfl, rfl, rfl, by decide +kernel, rfl, by decide +kernel, by decide +kernel⟩
theorem ok_Lchanged {f : Addr} {fd : FuncData} (F : FunD K "_law_changed" "_law_changed" (defArgs s_Lchanged) (defBody s_Lchanged) (defScope s_Lchanged) [] [] f fd) (B : Bf mg) {C : Addr} (hS : SpC K C) (hTake : HasFn P w K mg base 1 "_law_take" S_take) (hSt : HasMe P w K mg base 6 C "stepped" (S_stepped C)) (hSi : HasMe P w K mg base 7 C "sighted" (S_sighted C)) (hSo : HasFn P w K mg base 1 "_law_sorted" S_sorted) : FnOk P w K mg base CX0 8 f fd ["_law_box", "_law_made", "_law_pairs"] (spOf K (S_changed C)) := by
  refine fn_data (k := 7) F sc_Lchanged (fun ds M Φ h => ?_) (fun cdv A outer s H E ds M Φ hr h => ?_)
  · obtain ⟨l, k, n, o, t, Bo, rfl, hk, ho, hn, ct, st, hB1, hB2, q⟩ := h
    all_goals rfl
  · obtain ⟨l, k, n, o, t, Bo, rfl, hk, ho, hn, ct, st, hB1, hB2, q⟩ := h
    refine ws_if ?_
    refine wt_cmp ?_ (nomark _)
    refine wcf hTake (hr.mono (by decide)) ?_
    refine wa_cons ?_
    refine wv 0 rfl ?_
    refine wa_cons ?_
    refine we_int ?_
    refine wa_nil ?_
    refine ⟨l, k, _, _, _, rfl, hk, ho, by omega, by decide, by decide, fun t1 o1 ht1 ht1' ho1 => ?_⟩
    refine we_int ?_
    walk_at "op"
    refine ⟨_, rfl, ?_⟩
    refine ⟨fun hb => ?_, fun hb => ?_⟩
    · walk_at "tidy"
      refine ws_asg ?_
      refine we_tup ?_
      refine wa_cons ?_
      refine we_bin ?_
      refine wcf hTake (hr.mono (by decide)) ?_
      refine wa_cons ?_
      refine wv 0 rfl ?_
      refine wa_cons ?_
      refine we_int ?_
      refine wa_nil ?_
      refine ⟨l, k, _, _, _, rfl, getset hk, ho1, by omega, by decide, by decide, fun t2 o2 ht2 ht2' ho2 => ?_⟩
      rw [List.set_set]
      refine we_int ?_
      walk_at "op"
      refine wa_cons ?_
      refine we_bin ?_
      refine wcf hTake (hr.mono (by decide)) ?_
      refine wa_cons ?_
      refine wv 0 rfl ?_
      refine wa_cons ?_
      refine we_int ?_
      refine wa_nil ?_
      refine ⟨l, k, _, _, _, rfl, getset hk, ho2, by omega, by decide, by decide, fun t3 o3 ht3 ht3' ho3 => ?_⟩
      rw [List.set_set]
      refine we_int ?_
      walk_at "op"
      refine wa_nil ?_
      refine ⟨(by walk_at "size"), ?_⟩
      refine gd_tup rfl ?_ rfl
      refine gds_cons ?_
      refine gd_name 3 sc_Lchanged.nd ?_
      refine gds_cons ?_
      refine gd_name 4 sc_Lchanged.nd ?_
      refine gds_nil ?_
      refine ws_set 5 sc_Lchanged.nd ?_
      refine we_bin ?_
      refine wv 4 rfl ?_
      refine wcf hTake (hr.mono (by decide)) ?_
      refine wa_cons ?_
      refine wv 0 rfl ?_
      refine wa_cons ?_
      refine we_int ?_
      refine wa_nil ?_
      refine ⟨l, k, _, _, _, rfl, getset hk, ho3, by omega, by decide, by decide, fun t4 o4 ht4 ht4' ho4 => ?_⟩
      rw [List.set_set]
      walk_at "op"
      refine ws_set 6 sc_Lchanged.nd ?_
      refine we_lstO ?_
      refine wa_nil ?_
      refine ⟨(by walk_at "size"), fun l_1 => ?_⟩
      refine ws_wk (Γ' := [some (.adr l), some (spanD C t), some (psD (listL t)), some (.int (t2 - 1)), some (.int (t3 - 2)), some (.int (t3 - 2 + t4)), some (.adr l_1), none, none, none, none, none]) (M' := (l_1, .lst []) :: M.set k (l, o4)) (by repeat (first | exact wkE | refine wkS ?_ | refine wkN ?_)) (List.Sublist.refl _) ?_
      refine ws_cons (w1_forL (by passes_own) rfl ?_)
      refine wv 2 rfl ?_
      refine ⟨fun i Γ M2 => Γ = [some (.adr l), some (spanD C t), some (psD (listL t)), some (.int (t2 - 1)), some (.int (t3 - 2)), some (.int (t3 - 2 + t4)), some (.adr l_1), none, none, none, none, none] ∧ M2 = (l_1, .lst ((((listL t).take i).flatMap (fstep (t2 - 1) (t3 - 2) (t3 - 2 + t4))).map pD)) :: M.set k (l, o4), _, rfl, ⟨rfl, rfl⟩, ?_, ?_⟩
      · rintro i y Γ' M' hy ⟨rfl, rfl⟩
        obtain ⟨z, hz, rfl⟩ := getMap hy
        have he : sizeLine = 2 ^ 24 := rfl
        have hps := pairs_sz (t := t) (f := (fstep (t2 - 1) (t3 - 2) (t3 - 2 + t4))) (st.up (by omega)) (fun p => fstep_len (by omega) p) i
        refine gd_tup rfl ?_ rfl
        refine gds_cons (d := .int z.1) ?_
        refine gd_name 7 sc_Lchanged.nd ?_
        refine gds_cons (d := .int z.2) ?_
        refine gd_name 8 sc_Lchanged.nd ?_
        refine gds_nil ?_
        refine ws_expr ?_
        refine we_extend ?_
        refine wv 6 rfl ?_
        refine ⟨_, 0, _, rfl, rfl, ?_⟩
        refine lcOwnR2 (own := [("_law_s", 9)]) (j := 9) sc_Lchanged.nd B.range ?_ (blkOk_by (N := ["_law_box", "_law_made", "_law_pairs", "_law_by", "_law_low", "_law_high", "_law_found", "_law_b", "_law_t", "_law_s", "_law_blur", "_law_e"]) (sc := defScope s_Lchanged) (by decide +kernel)) (fun _ _ _ _ _ => pg_name (i := 9) sc_Lchanged.nd rfl (Or.inl rfl))
        refine wa_cons ?_
        refine wv 4 rfl ?_
        refine wa_cons ?_
        refine we_bin ?_
        refine wv 5 rfl ?_
        refine we_int ?_
        walk_at "op"
        refine wa_nil ?_
        refine ⟨_, _, fun y => tp (z.1 + (t2 - 1)) (z.2 + (t2 - 1) + y), rfl, by omega, by omega, by omega, fun y hy1 hy2 l out s H C' cl fp => ?_, fun l_2 => ?_⟩
        · skip
          refine we_tup ?_
          refine wa_cons ?_
          refine we_bin ?_
          refine wv 7 rfl ?_
          refine wv 3 rfl ?_
          walk_at "op"
          refine wa_cons ?_
          refine we_bin ?_
          refine we_bin ?_
          refine wv 8 rfl ?_
          refine wv 3 rfl ?_
          walk_at "op"
          refine wv 9 rfl ?_
          walk_at "op"
          refine wa_nil ?_
          refine ⟨(by walk_at "size"), ?_⟩
          exact ⟨rfl, rfl⟩
        refine ⟨1, 0, _, _, _, rfl, rfl, rfl, (by simp only [List.length_map, rn_len, List.length_nil] at hps ⊢; omega), ?_⟩
        refine ws_wk (Γ' := [some (.adr l), some (spanD C t), some (psD (listL t)), some (.int (t2 - 1)), some (.int (t3 - 2)), some (.int (t3 - 2 + t4)), some (.adr l_1), none, none, none, none, none]) (M' := (l_1, .lst ((((listL t).take i).flatMap (fstep (t2 - 1) (t3 - 2) (t3 - 2 + t4))).map pD ++ (rn (t3 - 2) (t3 - 2 + t4 + 1 - (t3 - 2)).toNat).map (fun s => tp (z.1 + (t2 - 1)) (z.2 + (t2 - 1) + s)))) :: M.set k (l, o4)) (by repeat (first | exact wkE | refine wkS ?_ | refine wkN ?_)) (.cons _ (.refl _)) (ws_nil ⟨rfl, by rw [take_flat (fstep (t2 - 1) (t3 - 2) (t3 - 2 + t4)) hz, List.map_append, fstep_D]⟩)
      · rintro Γ' M' ⟨rfl, rfl⟩
        rw [List.length_map, List.take_length]
        refine ws_freeze (i := 6) rfl ?_
        refine ws_ret ?_
        refine we_tup ?_
        refine wa_cons ?_
        refine wme hSt (hr.mono (by decide)) hS.cls ?_
        refine wv 1 rfl ?_
        refine ⟨⟨flds _, .inl rfl, flds_no (by decide) (by decide) (by decide)⟩, ?_⟩
        refine wa_cons ?_
        refine wv 3 rfl ?_
        refine wa_cons ?_
        refine wv 4 rfl ?_
        refine wa_cons ?_
        refine wv 5 rfl ?_
        refine wa_nil ?_
        refine use_stepped ?_
        refine wa_cons ?_
        refine wcf hSo (hr.mono (by decide)) ?_
        refine wa_cons ?_
        refine wv 6 rfl ?_
        refine wa_nil ?_
        refine ⟨_, rfl, all_sz (st.up (by omega)) (fun p => fstep_len (by omega) p), step_in st hB2 (by omega) (by omega), fun qs hq1 hq2 => ?_⟩
        rw [step_set ct (by omega) hq1 hq2]
        refine wa_nil ?_
        refine ⟨(by walk_at "size"), ?_⟩
        first
        | exact q _ _ canon_step (sm_step ct st (by omega) (by omega) (by omega)) (ho4.up (by omega))
        | exact q _ _ canon_sight (sm_sight ct st (by omega) (by omega)) (ho4.up (by omega))
    · walk_at "tidy"
      refine ws_nil ?_
      refine ws_par 4 10 sc_Lchanged.nd ?_
      refine wa_cons ?_
      refine we_bin ?_
      refine wcf hTake (hr.mono (by decide)) ?_
      refine wa_cons ?_
      refine wv 0 rfl ?_
      refine wa_cons ?_
      refine we_int ?_
      refine wa_nil ?_
      refine ⟨l, k, _, _, _, rfl, getset hk, ho1, by omega, by decide, by decide, fun t2 o2 ht2 ht2' ho2 => ?_⟩
      rw [List.set_set]
      refine we_int ?_
      walk_at "op"
      refine wa_cons ?_
      refine wcf hTake (hr.mono (by decide)) ?_
      refine wa_cons ?_
      refine wv 0 rfl ?_
      refine wa_cons ?_
      refine we_int ?_
      refine wa_nil ?_
      refine ⟨l, k, _, _, _, rfl, getset hk, ho2, by omega, by decide, by decide, fun t3 o3 ht3 ht3' ho3 => ?_⟩
      rw [List.set_set]
      refine wa_nil ?_
      refine ⟨_, _, rfl, ?_⟩
      refine ws_par 5 6 sc_Lchanged.nd ?_
      refine wa_cons ?_
      refine we_bin ?_
      refine wv 4 rfl ?_
      refine wcf hTake (hr.mono (by decide)) ?_
      refine wa_cons ?_
      refine wv 0 rfl ?_
      refine wa_cons ?_
      refine we_int ?_
      refine wa_nil ?_
      refine ⟨l, k, _, _, _, rfl, getset hk, ho3, by omega, by decide, by decide, fun t4 o4 ht4 ht4' ho4 => ?_⟩
      rw [List.set_set]
      walk_at "op"
      refine wa_cons ?_
      refine we_lstO ?_
      refine wa_nil ?_
      refine ⟨(by walk_at "size"), fun l_1 => ?_⟩
      refine wa_nil ?_
      refine ⟨_, _, rfl, ?_⟩
      refine ws_wk (Γ' := [some (.adr l), some (spanD C t), some (psD (listL t)), none, some (.int (t2 - 4)), some (.int (t2 - 4 + t4)), some (.adr l_1), none, none, none, some (.int t3), none]) (M' := (l_1, .lst []) :: M.set k (l, o4)) (by repeat (first | exact wkE | refine wkS ?_ | refine wkN ?_)) (List.Sublist.refl _) ?_
      refine ws_cons (w1_forL (by passes_own) rfl ?_)
      refine wv 2 rfl ?_
      refine ⟨fun i Γ M2 => Γ = [some (.adr l), some (spanD C t), some (psD (listL t)), none, some (.int (t2 - 4)), some (.int (t2 - 4 + t4)), some (.adr l_1), none, none, none, some (.int t3), none] ∧ M2 = (l_1, .lst ((((listL t).take i).flatMap (fsight (t2 - 4) (t2 - 4 + t4) t3)).map pD)) :: M.set k (l, o4), _, rfl, ⟨rfl, rfl⟩, ?_, ?_⟩
      · rintro i y Γ' M' hy ⟨rfl, rfl⟩
        obtain ⟨z, hz, rfl⟩ := getMap hy
        have he : sizeLine = 2 ^ 24 := rfl
        have hps := pairs_sz (t := t) (f := (fsight (t2 - 4) (t2 - 4 + t4) t3)) (st.up (by omega)) (fun p => fsight_len (by omega) p) i
        refine gd_tup rfl ?_ rfl
        refine gds_cons (d := .int z.1) ?_
        refine gd_name 7 sc_Lchanged.nd ?_
        refine gds_cons (d := .int z.2) ?_
        refine gd_name 8 sc_Lchanged.nd ?_
        refine gds_nil ?_
        refine ws_expr ?_
        refine we_extend ?_
        refine wv 6 rfl ?_
        refine ⟨_, 0, _, rfl, rfl, ?_⟩
        refine we_if ?_
        refine wt_chain ?_
        refine wv 4 rfl ?_
        refine wv 8 rfl ?_
        walk_at "op"
        refine ⟨_, rfl, fun hb => ?_, fun hb => ?_⟩
        · first
          | (walk_at "dead")
          | (
            walk_at "tidy"
            refine wv 5 rfl ?_
            walk_at "op"
            refine ⟨_, rfl, ?_⟩
            refine ⟨fun hb => ?_, fun hb => ?_⟩
            · first
              | (walk_at "dead")
              | (
                walk_at "tidy"
                refine lcOwnR2 (own := [("_law_e", 11)]) (j := 11) sc_Lchanged.nd B.range ?_ (blkOk_by (N := ["_law_box", "_law_made", "_law_pairs", "_law_by", "_law_low", "_law_high", "_law_found", "_law_b", "_law_t", "_law_s", "_law_blur", "_law_e"]) (sc := defScope s_Lchanged) (by decide +kernel)) (fun _ _ _ _ _ => pg_name (i := 11) sc_Lchanged.nd rfl (Or.inl rfl))
                refine wa_cons ?_
                refine we_bin ?_
                refine we_int ?_
                refine wv 10 rfl ?_
                walk_at "op"
                refine wa_cons ?_
                refine we_bin ?_
                refine wv 10 rfl ?_
                refine we_int ?_
                walk_at "op"
                refine wa_nil ?_
                refine ⟨_, _, fun y => tp (z.2 - y) z.2, rfl, by omega, by omega, by omega, fun y hy1 hy2 l out s H C' cl fp => ?_, fun l_2 => ?_⟩
                · skip
                  refine we_tup ?_
                  refine wa_cons ?_
                  refine we_bin ?_
                  refine wv 8 rfl ?_
                  refine wv 11 rfl ?_
                  walk_at "op"
                  refine wa_cons ?_
                  refine wv 8 rfl ?_
                  refine wa_nil ?_
                  refine ⟨(by walk_at "size"), ?_⟩
                  exact ⟨rfl, rfl⟩
                refine ⟨1, 0, _, _, _, rfl, rfl, rfl, (by simp only [List.length_map, rn_len, List.length_nil] at hps ⊢; omega), ?_⟩
                first
                | (refine ws_wk (Γ' := [some (.adr l), some (spanD C t), some (psD (listL t)), none, some (.int (t2 - 4)), some (.int (t2 - 4 + t4)), some (.adr l_1), none, none, none, some (.int t3), none]) (M' := (l_1, .lst ((((listL t).take i).flatMap (fsight (t2 - 4) (t2 - 4 + t4) t3)).map pD ++ (rn (0 - t3) (t3 + 1 - (0 - t3)).toNat).map (fun e => tp (z.2 - e) z.2))) :: M.set k (l, o4)) (by repeat (first | exact wkE | refine wkS ?_ | refine wkN ?_)) (.cons _ (.refl _)) (ws_nil ⟨rfl, by rw [take_flat (fsight (t2 - 4) (t2 - 4 + t4) t3) hz, List.map_append, fsight_yes (by omega), fblur_D]⟩))
                | (refine ws_wk (Γ' := [some (.adr l), some (spanD C t), some (psD (listL t)), none, some (.int (t2 - 4)), some (.int (t2 - 4 + t4)), some (.adr l_1), none, none, none, some (.int t3), none]) (M' := (l_1, .lst ((((listL t).take i).flatMap (fsight (t2 - 4) (t2 - 4 + t4) t3)).map pD ++ [])) :: M.set k (l, o4)) (by repeat (first | exact wkE | refine wkS ?_ | refine wkN ?_)) (.cons _ (.refl _)) (ws_nil ⟨rfl, by rw [take_flat (fsight (t2 - 4) (t2 - 4 + t4) t3) hz, List.map_append, fsight_no (by omega), List.map_nil]⟩)))
            · first
              | (walk_at "dead")
              | (
                walk_at "tidy"
                refine we_lstO ?_
                refine wa_nil ?_
                refine ⟨(by walk_at "size"), fun l_2 => ?_⟩
                refine ⟨1, 0, _, _, _, rfl, rfl, rfl, (by simp only [List.length_map, rn_len, List.length_nil] at hps ⊢; omega), ?_⟩
                first
                | (refine ws_wk (Γ' := [some (.adr l), some (spanD C t), some (psD (listL t)), none, some (.int (t2 - 4)), some (.int (t2 - 4 + t4)), some (.adr l_1), none, none, none, some (.int t3), none]) (M' := (l_1, .lst ((((listL t).take i).flatMap (fsight (t2 - 4) (t2 - 4 + t4) t3)).map pD ++ (rn (0 - t3) (t3 + 1 - (0 - t3)).toNat).map (fun e => tp (z.2 - e) z.2))) :: M.set k (l, o4)) (by repeat (first | exact wkE | refine wkS ?_ | refine wkN ?_)) (.cons _ (.refl _)) (ws_nil ⟨rfl, by rw [take_flat (fsight (t2 - 4) (t2 - 4 + t4) t3) hz, List.map_append, fsight_yes (by omega), fblur_D]⟩))
                | (refine ws_wk (Γ' := [some (.adr l), some (spanD C t), some (psD (listL t)), none, some (.int (t2 - 4)), some (.int (t2 - 4 + t4)), some (.adr l_1), none, none, none, some (.int t3), none]) (M' := (l_1, .lst ((((listL t).take i).flatMap (fsight (t2 - 4) (t2 - 4 + t4) t3)).map pD ++ [])) :: M.set k (l, o4)) (by repeat (first | exact wkE | refine wkS ?_ | refine wkN ?_)) (.cons _ (.refl _)) (ws_nil ⟨rfl, by rw [take_flat (fsight (t2 - 4) (t2 - 4 + t4) t3) hz, List.map_append, fsight_no (by omega), List.map_nil]⟩))))
        · first
          | (walk_at "dead")
          | (
            walk_at "tidy"
            refine ⟨fun hb => ?_, fun hb => ?_⟩
            · walk_at "dead"
            · walk_at "tidy"
              refine we_lstO ?_
              refine wa_nil ?_
              refine ⟨(by walk_at "size"), fun l_3 => ?_⟩
              refine ⟨1, 0, _, _, _, rfl, rfl, rfl, (by simp only [List.length_map, rn_len, List.length_nil] at hps ⊢; omega), ?_⟩
              first
              | (refine ws_wk (Γ' := [some (.adr l), some (spanD C t), some (psD (listL t)), none, some (.int (t2 - 4)), some (.int (t2 - 4 + t4)), some (.adr l_1), none, none, none, some (.int t3), none]) (M' := (l_1, .lst ((((listL t).take i).flatMap (fsight (t2 - 4) (t2 - 4 + t4) t3)).map pD ++ (rn (0 - t3) (t3 + 1 - (0 - t3)).toNat).map (fun e => tp (z.2 - e) z.2))) :: M.set k (l, o4)) (by repeat (first | exact wkE | refine wkS ?_ | refine wkN ?_)) (.cons _ (.refl _)) (ws_nil ⟨rfl, by rw [take_flat (fsight (t2 - 4) (t2 - 4 + t4) t3) hz, List.map_append, fsight_yes (by omega), fblur_D]⟩))
              | (refine ws_wk (Γ' := [some (.adr l), some (spanD C t), some (psD (listL t)), none, some (.int (t2 - 4)), some (.int (t2 - 4 + t4)), some (.adr l_1), none, none, none, some (.int t3), none]) (M' := (l_1, .lst ((((listL t).take i).flatMap (fsight (t2 - 4) (t2 - 4 + t4) t3)).map pD ++ [])) :: M.set k (l, o4)) (by repeat (first | exact wkE | refine wkS ?_ | refine wkN ?_)) (.cons _ (.refl _)) (ws_nil ⟨rfl, by rw [take_flat (fsight (t2 - 4) (t2 - 4 + t4) t3) hz, List.map_append, fsight_no (by omega), List.map_nil]⟩)))
      · rintro Γ' M' ⟨rfl, rfl⟩
        rw [List.length_map, List.take_length]
        refine ws_freeze (i := 6) rfl ?_
        refine ws_ret ?_
        refine we_tup ?_
        refine wa_cons ?_
        refine wme hSi (hr.mono (by decide)) hS.cls ?_
        refine wv 1 rfl ?_
        refine ⟨⟨flds _, .inl rfl, flds_no (by decide) (by decide) (by decide)⟩, ?_⟩
        refine wa_cons ?_
        refine wv 4 rfl ?_
        refine wa_cons ?_
        refine wv 5 rfl ?_
        refine wa_cons ?_
        refine wv 10 rfl ?_
        refine wa_nil ?_
        refine use_sighted (lo := some (t2 - 4)) (hi := some (t2 - 4 + t4)) ?_
        refine wa_cons ?_
        refine wcf hSo (hr.mono (by decide)) ?_
        refine wa_cons ?_
        refine wv 6 rfl ?_
        refine wa_nil ?_
        refine ⟨_, rfl, all_sz (st.up (by omega)) (fun p => fsight_len (by omega) p), sight_in st hB2 (by omega), fun qs hq1 hq2 => ?_⟩
        rw [sight_set ct (by omega) hq1 hq2]
        refine wa_nil ?_
        refine ⟨(by walk_at "size"), ?_⟩
        first
        | exact q _ _ canon_step (sm_step ct st (by omega) (by omega) (by omega)) (ho4.up (by omega))
        | exact q _ _ canon_sight (sm_sight ct st (by omega) (by omega)) (ho4.up (by omega))
end
end Sl57

set_option Elab.async false
set_option linter.all false
set_option maxRecDepth 100000
set_option maxHeartbeats 1000000

namespace Sl57
open PySem PySem.Spec PyProof.Rows L2 Dt
set_option hygiene false
local macro_rules | `(tactic| walk_at "op") => `(tactic| (first
  | refine od_add ?_ | refine od_sub ?_ | refine od_lt ?_ | refine od_le ?_ | refine od_gt ?_ | refine od_ge ?_ | refine od_eq ?_ | refine od_ne ?_ | refine od_is ?_ | refine od_isn ?_
  | refine od_eqS ?_ | refine od_neS ?_ | refine od_eqB ?_ | refine od_neB ?_))
local macro_rules | `(tactic| walk_at "dead") => `(tactic| (first
  | (cases hb; done)
  | (exact absurd (show false = true from hb) (by decide))
  | (exact absurd (show true = false from hb) (by decide))
  | (exact absurd hb (by decide))
  | (exfalso; simp only [decide_eq_true_eq, decide_eq_false_iff_not, Bool.not_eq_true', Bool.not_eq_false'] at hb; omega)))
local macro_rules | `(tactic| walk_at "tidy") => `(tactic| (try simp only [decide_eq_true_eq, decide_eq_false_iff_not, Bool.not_eq_true', Bool.not_eq_false'] at hb))
local macro_rules | `(tactic| walk_at "truth") => `(tactic| (first | refine tr_bl ?_ | refine tr_lst ?_ | refine tr_tup ?_ | refine tr_non ?_ | refine tr_int ?_))
local macro_rules | `(tactic| walk_at "ix") => `(tactic| (first
  | refine ix_tup (j := 0) rfl rfl ?_ | refine ix_tup (j := 1) rfl rfl ?_ | refine ix_tup (j := 2) rfl rfl ?_
  | refine ix_lst (j := 0) rfl rfl ?_ | refine ix_lst (j := 1) rfl rfl ?_ | refine ix_lst (j := 2) rfl rfl ?_
  | refine ix_own (k := 0) (j := 0) rfl rfl rfl ?_
  | refine ix_own (k := 0) (j := 1) rfl rfl rfl ?_
  | refine ix_own (k := 0) (j := 2) rfl rfl rfl ?_
  | refine ix_own (k := 1) (j := 0) rfl rfl rfl ?_
  | refine ix_own (k := 1) (j := 1) rfl rfl rfl ?_
  | refine ix_own (k := 1) (j := 2) rfl rfl rfl ?_
  | refine ix_own (k := 2) (j := 0) rfl rfl rfl ?_
  | refine ix_own (k := 2) (j := 1) rfl rfl rfl ?_
  | refine ix_own (k := 2) (j := 2) rfl rfl rfl ?_
  | refine ix_own (k := 3) (j := 0) rfl rfl rfl ?_
  | refine ix_own (k := 3) (j := 1) rfl rfl rfl ?_
  | refine ix_own (k := 3) (j := 2) rfl rfl rfl ?_
  | refine ix_own (k := 4) (j := 0) rfl rfl rfl ?_
  | refine ix_own (k := 4) (j := 1) rfl rfl rfl ?_
  | refine ix_own (k := 4) (j := 2) rfl rfl rfl ?_
  | refine ix_own (k := 5) (j := 0) rfl rfl rfl ?_
  | refine ix_own (k := 5) (j := 1) rfl rfl rfl ?_
  | refine ix_own (k := 5) (j := 2) rfl rfl rfl ?_
  | refine ix_own (k := 6) (j := 0) rfl rfl rfl ?_
  | refine ix_own (k := 6) (j := 1) rfl rfl rfl ?_
  | refine ix_own (k := 6) (j := 2) rfl rfl rfl ?_
  | refine ix_own (k := 7) (j := 0) rfl rfl rfl ?_
  | refine ix_own (k := 7) (j := 1) rfl rfl rfl ?_
  | refine ix_own (k := 7) (j := 2) rfl rfl rfl ?_
  | refine ix_own (k := 8) (j := 0) rfl rfl rfl ?_
  | refine ix_own (k := 8) (j := 1) rfl rfl rfl ?_
  | refine ix_own (k := 8) (j := 2) rfl rfl rfl ?_
  | refine ix_own (k := 9) (j := 0) rfl rfl rfl ?_
  | refine ix_own (k := 9) (j := 1) rfl rfl rfl ?_
  | refine ix_own (k := 9) (j := 2) rfl rfl rfl ?_
  | refine ix_own (k := 10) (j := 0) rfl rfl rfl ?_
  | refine ix_own (k := 10) (j := 1) rfl rfl rfl ?_
  | refine ix_own (k := 10) (j := 2) rfl rfl rfl ?_
  | refine ix_own (k := 11) (j := 0) rfl rfl rfl ?_
  | refine ix_own (k := 11) (j := 1) rfl rfl rfl ?_
  | refine ix_own (k := 11) (j := 2) rfl rfl rfl ?_
  | refine ix_own (k := 12) (j := 0) rfl rfl rfl ?_
  | refine ix_own (k := 12) (j := 1) rfl rfl rfl ?_
  | refine ix_own (k := 12) (j := 2) rfl rfl rfl ?_
  | refine ix_own (k := 13) (j := 0) rfl rfl rfl ?_
  | refine ix_own (k := 13) (j := 1) rfl rfl rfl ?_
  | refine ix_own (k := 13) (j := 2) rfl rfl rfl ?_))
local macro_rules | `(tactic| walk_at "seti") => `(tactic| (first
  | refine ⟨0, 0, _, _, _, rfl, rfl, rfl, rfl, of_decide_eq_true rfl, ?_⟩
  | refine ⟨0, 1, _, _, _, rfl, rfl, rfl, rfl, of_decide_eq_true rfl, ?_⟩
  | refine ⟨0, 2, _, _, _, rfl, rfl, rfl, rfl, of_decide_eq_true rfl, ?_⟩
  | refine ⟨1, 0, _, _, _, rfl, rfl, rfl, rfl, of_decide_eq_true rfl, ?_⟩
  | refine ⟨1, 1, _, _, _, rfl, rfl, rfl, rfl, of_decide_eq_true rfl, ?_⟩
  | refine ⟨1, 2, _, _, _, rfl, rfl, rfl, rfl, of_decide_eq_true rfl, ?_⟩
  | refine ⟨2, 0, _, _, _, rfl, rfl, rfl, rfl, of_decide_eq_true rfl, ?_⟩
  | refine ⟨2, 1, _, _, _, rfl, rfl, rfl, rfl, of_decide_eq_true rfl, ?_⟩
  | refine ⟨2, 2, _, _, _, rfl, rfl, rfl, rfl, of_decide_eq_true rfl, ?_⟩
  | refine ⟨3, 0, _, _, _, rfl, rfl, rfl, rfl, of_decide_eq_true rfl, ?_⟩
  | refine ⟨3, 1, _, _, _, rfl, rfl, rfl, rfl, of_decide_eq_true rfl, ?_⟩
  | refine ⟨3, 2, _, _, _, rfl, rfl, rfl, rfl, of_decide_eq_true rfl, ?_⟩
  | refine ⟨4, 0, _, _, _, rfl, rfl, rfl, rfl, of_decide_eq_true rfl, ?_⟩
  | refine ⟨4, 1, _, _, _, rfl, rfl, rfl, rfl, of_decide_eq_true rfl, ?_⟩
  | refine ⟨4, 2, _, _, _, rfl, rfl, rfl, rfl, of_decide_eq_true rfl, ?_⟩
  | refine ⟨5, 0, _, _, _, rfl, rfl, rfl, rfl, of_decide_eq_true rfl, ?_⟩
  | refine ⟨5, 1, _, _, _, rfl, rfl, rfl, rfl, of_decide_eq_true rfl, ?_⟩
  | refine ⟨5, 2, _, _, _, rfl, rfl, rfl, rfl, of_decide_eq_true rfl, ?_⟩
  | refine ⟨6, 0, _, _, _, rfl, rfl, rfl, rfl, of_decide_eq_true rfl, ?_⟩
  | refine ⟨6, 1, _, _, _, rfl, rfl, rfl, rfl, of_decide_eq_true rfl, ?_⟩
  | refine ⟨6, 2, _, _, _, rfl, rfl, rfl, rfl, of_decide_eq_true rfl, ?_⟩
  | refine ⟨7, 0, _, _, _, rfl, rfl, rfl, rfl, of_decide_eq_true rfl, ?_⟩
  | refine ⟨7, 1, _, _, _, rfl, rfl, rfl, rfl, of_decide_eq_true rfl, ?_⟩
  | refine ⟨7, 2, _, _, _, rfl, rfl, rfl, rfl, of_decide_eq_true rfl, ?_⟩
  | refine ⟨8, 0, _, _, _, rfl, rfl, rfl, rfl, of_decide_eq_true rfl, ?_⟩
  | refine ⟨8, 1, _, _, _, rfl, rfl, rfl, rfl, of_decide_eq_true rfl, ?_⟩
  | refine ⟨8, 2, _, _, _, rfl, rfl, rfl, rfl, of_decide_eq_true rfl, ?_⟩
  | refine ⟨9, 0, _, _, _, rfl, rfl, rfl, rfl, of_decide_eq_true rfl, ?_⟩
  | refine ⟨9, 1, _, _, _, rfl, rfl, rfl, rfl, of_decide_eq_true rfl, ?_⟩
  | refine ⟨9, 2, _, _, _, rfl, rfl, rfl, rfl, of_decide_eq_true rfl, ?_⟩
  | refine ⟨10, 0, _, _, _, rfl, rfl, rfl, rfl, of_decide_eq_true rfl, ?_⟩
  | refine ⟨10, 1, _, _, _, rfl, rfl, rfl, rfl, of_decide_eq_true rfl, ?_⟩
  | refine ⟨10, 2, _, _, _, rfl, rfl, rfl, rfl, of_decide_eq_true rfl, ?_⟩
  | refine ⟨11, 0, _, _, _, rfl, rfl, rfl, rfl, of_decide_eq_true rfl, ?_⟩
  | refine ⟨11, 1, _, _, _, rfl, rfl, rfl, rfl, of_decide_eq_true rfl, ?_⟩
  | refine ⟨11, 2, _, _, _, rfl, rfl, rfl, rfl, of_decide_eq_true rfl, ?_⟩
  | refine ⟨12, 0, _, _, _, rfl, rfl, rfl, rfl, of_decide_eq_true rfl, ?_⟩
  | refine ⟨12, 1, _, _, _, rfl, rfl, rfl, rfl, of_decide_eq_true rfl, ?_⟩
  | refine ⟨12, 2, _, _, _, rfl, rfl, rfl, rfl, of_decide_eq_true rfl, ?_⟩
  | refine ⟨13, 0, _, _, _, rfl, rfl, rfl, rfl, of_decide_eq_true rfl, ?_⟩
  | refine ⟨13, 1, _, _, _, rfl, rfl, rfl, rfl, of_decide_eq_true rfl, ?_⟩
  | refine ⟨13, 2, _, _, _, rfl, rfl, rfl, rfl, of_decide_eq_true rfl, ?_⟩))
local macro_rules | `(tactic| walk_at "lst") => `(tactic| (first
  | refine cd_list (.inr (.inr ⟨0, _, rfl, rfl⟩)) ?_
  | refine cd_list (.inr (.inr ⟨1, _, rfl, rfl⟩)) ?_
  | refine cd_list (.inr (.inr ⟨2, _, rfl, rfl⟩)) ?_
  | refine cd_list (.inr (.inr ⟨3, _, rfl, rfl⟩)) ?_
  | refine cd_list (.inr (.inr ⟨4, _, rfl, rfl⟩)) ?_
  | refine cd_list (.inr (.inr ⟨5, _, rfl, rfl⟩)) ?_
  | refine cd_list (.inr (.inr ⟨6, _, rfl, rfl⟩)) ?_
  | refine cd_list (.inr (.inr ⟨7, _, rfl, rfl⟩)) ?_
  | refine cd_list (.inr (.inr ⟨8, _, rfl, rfl⟩)) ?_
  | refine cd_list (.inr (.inr ⟨9, _, rfl, rfl⟩)) ?_
  | refine cd_list (.inr (.inr ⟨10, _, rfl, rfl⟩)) ?_
  | refine cd_list (.inr (.inr ⟨11, _, rfl, rfl⟩)) ?_
  | refine cd_list (.inr (.inr ⟨12, _, rfl, rfl⟩)) ?_
  | refine cd_list (.inr (.inr ⟨13, _, rfl, rfl⟩)) ?_))
local macro_rules | `(tactic| walk_at "isi") => `(tactic| (first | refine cd_isi (k := true) rfl (by decide +kernel) ?_ | refine cd_isi (k := false) rfl (by decide +kernel) ?_))
local macro_rules | `(tactic| walk_at "size") => `(tactic| (first
  | exact (show 0 ≤ sizeLine by decide) | exact (show 1 ≤ sizeLine by decide) | exact (show 2 ≤ sizeLine by decide) | exact (show 3 ≤ sizeLine by decide) | exact (show 4 ≤ sizeLine by decide) | exact (show 5 ≤ sizeLine by decide) | exact (show 6 ≤ sizeLine by decide)))

section
variable {P : Program} {w : World} {K : PySem.W.Frag} {mg : Str → Option Value} {base : Heap}
def S_law : DS := fun ds M Φ => ∃ ns : List Int, ds = [.lst (ns.map .int)] ∧ ns.length ≤ 63 ∧ M = [] ∧ ∀ M', Φ (.bl true) M'
theorem use_boolG {C : Addr} {t : Option B3} {M : Mem} {Φ : VP} (q : Φ (.bl t.isSome) M) : S_bool C [spanD C t] M Φ := ⟨t, rfl, q⟩
theorem filt_no (L : List D) : L.filter (fun _ => false) = [] := by simp
theorem bd4 {t : Option B3} (c : CanonO t) (h : SmO 400 t) : ∀ u, t = some u → u.bd := fun u hu => (c u hu).bd (h u hu) (by decide)
theorem some_list {t : Option B3} (c : CanonO t) : t.isSome = !decide (listL t = []) := by
  cases t with
  | none => rfl
  | some t =>
    show true = _
    rw [decide_eq_false]
    · rfl
    · intro h
      obtain ⟨j, hj⟩ := (c t rfl).at_b0
      have z : (t.b0, j) ∈ listL (some t) := mem_listL.mpr hj
      rw [h] at z
      cases z
theorem three_none {C : Addr} {y : D} (h : y ∈ [spanD C none, spanD C none, spanD C none]) : y = spanD C none := by
  simp only [List.mem_cons, List.not_mem_nil, or_false] at h
  rcases h with h | h | h <;> exact h
abbrev s_law : Stmt := top 22
theorem sc_law : FnScope ["_law_script", "_law_k", "_law_box", "_law_turn", "_law_bounds_here", "_law_made", "_law_pairs", "_law_more", "_law_after", "_law_due", "_law_empty", "_law_some", "_law_one"] ["_law_script"] (defScope s_law) := ⟨rfl, rfl, rfl, by decide +kernel, rfl, by decide +kernel, by decide +kernel⟩
theorem ok_law {f : Addr} {fd : FuncData} (F : FunD K "law" "law" (defArgs s_law) (defBody s_law) (defScope s_law) [] [] f fd) (B : Bf mg) {C : Addr} (hS : SpC K C) (hB : HasMe P w K mg base 1 C "__bool__" (S_bool C)) (hM : HasMk P w K mg base 4 C "Span" (S_init C)) (hFeed : HasFn P w K mg base 1 "_law_feed" S_feed) (hEq : HasMe P w K mg base 1 C "__eq__" (S_eq C)) (hNe : NeF K C) (hAnd : HasMe P w K mg base 6 C "__and__" (S_and C)) (hSF : PySem.W.selfFirst K C = true) (hSt : HasMe P w K mg base 6 C "stepped" (S_stepped C)) (hSi : HasMe P w K mg base 7 C "sighted" (S_sighted C)) (hLs : HasMe P w K mg base 6 C "less" (S_less C)) (hTot : HasPr P w K mg base 3 C "total" (S_total C)) (hI : IsF K C) (hCls : mg "Span" = some (.ref C)) (hBo : HasFn P w K mg base 3 "_law_bounds" S_bounds) (hAll : HasFn P w K mg base 1 "_law_all" S_all) (hLi : HasFn P w K mg base 3 "_law_listed" (S_listed C)) (hCh : HasFn P w K mg base 8 "_law_changed" (S_changed C)) : FnOk P w K mg base CX0 9 f fd ["_law_script"] (spOf K S_law) := by
  refine fn_data (k := 8) F sc_law (fun ds M Φ h => ?_) (fun cdv A outer s H E ds M Φ hr h => ?_)
  · obtain ⟨ns, rfl, hlen, rfl, qq⟩ := h
    all_goals rfl
  · obtain ⟨ns, rfl, hlen, rfl, qq⟩ := h
    refine ws_cons (w1_forR1 (by passes_own) rfl rfl B.range ?_)
    refine wa_cons ?_
    refine wcB B.max boot_max ?_
    refine wa_cons ?_
    refine we_int ?_
    refine wa_cons ?_
    refine wcB B.min boot_min ?_
    refine wa_cons ?_
    refine we_int ?_
    refine wa_cons ?_
    refine wcB B.len boot_len ?_
    refine wa_cons ?_
    refine wv 0 rfl ?_
    refine wa_nil ?_
    first
    | refine cd_len_lst ?_
    | refine cd_len_tup ?_
    refine wa_nil ?_
    refine cd_min rfl ?_
    refine wa_nil ?_
    refine cd_max rfl ?_
    refine wa_nil ?_
    refine ⟨fun _ Γ M => Γ = [some (.lst (ns.map .int)), none, none, none, none, none, none, none, none, none, none, none, none] ∧ M = [], _, rfl, by omega, by omega, ⟨rfl, rfl⟩, ?_, ?_⟩
    · rintro i Γ' M' hi ⟨rfl, rfl⟩
      refine gd_name 1 sc_law.nd ?_
      refine ws_set 2 sc_law.nd ?_
      refine wcf hFeed (hr.mono (by decide)) ?_
      refine wa_cons ?_
      refine wv 0 rfl ?_
      refine wa_cons ?_
      refine wv 1 rfl ?_
      refine wa_nil ?_
      refine ⟨ns, i, rfl, by omega, fun l o ho => ?_⟩
      refine ws_cons (w1_forR1 (by passes_own) rfl rfl B.range ?_)
      refine wa_cons ?_
      refine we_int ?_
      refine wa_nil ?_
      refine ⟨fun j Γ M => Γ = [some (.lst (ns.map .int)), some (.int (i : Int)), some (.adr l), none, none, none, none, none, none, none, none, none, none] ∧ ∃ o, BoxM (24 * j) o ∧ M = [(l, o)], _, rfl, by decide, by decide, ⟨rfl, o, ho, rfl⟩, ?_, ?_⟩
      · rintro j Γ' M' hj ⟨rfl, o, ho, rfl⟩
        refine gd_name 3 sc_law.nd ?_
        refine ws_set 4 sc_law.nd ?_
        refine wcf hBo (hr.mono (by decide)) ?_
        refine wa_cons ?_
        refine wv 2 rfl ?_
        refine wa_nil ?_
        refine ⟨l, 0, _, _, rfl, rfl, ho, by omega, fun b0 b1 p0 p1 e0 e1 o1 hb_ hp_ he_ ho1 => ?_⟩
        refine ws_wk (Γ' := [some (.lst (ns.map .int)), some (.int (i : Int)), some (.adr l), some (.int (j : Int)), some (.lst [tp b0 b1, tp p0 p1, tp e0 e1]), none, none, none, none, none, none, none, none]) (M' := [(l, o1)]) (by repeat (first | exact wkE | refine wkS ?_ | refine wkN ?_)) (List.Sublist.refl _) ?_
        refine ws_par 5 6 sc_law.nd ?_
        refine wa_cons ?_
        refine wmkS hM (hr.mono (by decide)) ?_
        refine wa_cons ?_
        refine we_ix ?_ (fun _ _ => rfl)
        refine wv 4 rfl ?_
        refine we_int ?_
        walk_at "ix"
        refine wa_cons ?_
        refine we_ix ?_ (fun _ _ => rfl)
        refine wv 4 rfl ?_
        refine we_int ?_
        walk_at "ix"
        refine wa_cons ?_
        refine we_ix ?_ (fun _ _ => rfl)
        refine wv 4 rfl ?_
        refine we_int ?_
        walk_at "ix"
        refine wa_nil ?_
        refine ⟨_, _, _, _, _, _, rfl, ?_⟩
        refine wa_cons ?_
        refine wcf hAll (hr.mono (by decide)) ?_
        refine wa_cons ?_
        refine wv 4 rfl ?_
        refine wa_nil ?_
        refine ⟨b0, b1, p0, p1, e0, e1, rfl, by omega, by omega, by omega, by omega, by omega, by omega, by omega, by omega, ?_⟩
        refine wa_nil ?_
        refine ⟨_, _, rfl, ?_⟩
        obtain ⟨t, ht⟩ : ∃ t, t = tight b0 b1 p0 p1 e0 e1 := ⟨_, rfl⟩
        have ct : CanonO t := by rw [ht]; exact canon_tight _ _ _ _ _ _
        have st : SmO 20 t := by rw [ht]; exact sm_tight (by omega) (by omega) (by omega) (by omega) (by omega) (by omega)
        have hA : allL b0 b1 p0 p1 e0 e1 = listL t := by rw [ht, list_tight]
        rw [← ht, hA]
        refine ws_wk (Γ' := [some (.lst (ns.map .int)), some (.int (i : Int)), some (.adr l), some (.int (j : Int)), none, some (spanD C t), some (psD (listL t)), none, none, none, none, none, none]) (M' := [(l, o1)]) (by repeat (first | exact wkE | refine wkS ?_ | refine wkN ?_)) (List.Sublist.refl _) ?_
        refine ws_cons (w1_forR1 (by passes_own) rfl rfl B.range ?_)
        refine wa_cons ?_
        refine we_int ?_
        refine wa_nil ?_
        refine ⟨fun m Γ M => ∃ (t : Option B3) (o : MO), CanonO t ∧ SmO (20 + 10 * (m : Int)) t ∧ BoxM (24 * j + 9 + 5 * m) o ∧ Γ = [some (.lst (ns.map .int)), some (.int (i : Int)), some (.adr l), some (.int (j : Int)), none, some (spanD C t), some (psD (listL t)), none, none, none, none, none, none] ∧ M = [(l, o)], _, rfl, by decide, by decide, ⟨t, o1, ct, st, ho1, rfl, rfl⟩, ?_, ?_⟩
        · rintro m Γ' M' hm ⟨t, o1, ct, st, ho1, rfl, rfl⟩
          refine gd_name 7 sc_law.nd ?_
          refine ws_asg ?_
          refine wcf hCh (hr.mono (by decide)) ?_
          refine wa_cons ?_
          refine wv 2 rfl ?_
          refine wa_cons ?_
          refine wv 5 rfl ?_
          refine wa_cons ?_
          refine wv 6 rfl ?_
          refine wa_nil ?_
          refine ⟨l, 0, _, _, t, _, rfl, rfl, ho1, by omega, ct, st, by omega, by omega, fun u o2 cu su ho2 => ?_⟩
          refine gd_tup rfl ?_ rfl
          refine gds_cons ?_
          refine gd_name 8 sc_law.nd ?_
          refine gds_cons ?_
          refine gd_name 9 sc_law.nd ?_
          refine gds_nil ?_
          refine ws_wk (Γ' := [some (.lst (ns.map .int)), some (.int (i : Int)), some (.adr l), some (.int (j : Int)), none, some (spanD C t), some (psD (listL t)), some (.int (m : Int)), some (spanD C u), some (psD (listL u)), none, none, none]) (M' := [(l, o2)]) (by repeat (first | exact wkE | refine wkS ?_ | refine wkN ?_)) (List.Sublist.refl _) ?_
          refine ws_if ?_
          refine wt_bool ?_
          refine ww_or ?_
          refine wt_cmp ?_ (nomark _)
          refine we_frz ?_
          refine wcf hLi (hr.mono (by decide)) ?_
          refine wa_cons ?_
          refine wv 5 rfl ?_
          refine wa_nil ?_
          refine ⟨t, rfl, ct, (st.up (by omega)), fun l9 => ⟨l9, _, _, rfl, rfl, ?_⟩⟩
          refine wv 6 rfl ?_
          refine od_neP hr.units (.inl rfl) (.inl rfl) ?_
          rw [decide_eq_true (rfl)]
          refine ⟨_, rfl, ?_⟩
          refine ⟨fun hb => ?_, fun hb => ?_⟩
          · walk_at "dead"
          · walk_at "tidy"
            refine ww_or ?_
            refine wt_cmp ?_ (nomark _)
            refine we_frz ?_
            refine wcf hLi (hr.mono (by decide)) ?_
            refine wa_cons ?_
            refine wv 8 rfl ?_
            refine wa_nil ?_
            refine ⟨u, rfl, cu, (su.up (by omega)), fun l9 => ⟨l9, _, _, rfl, rfl, ?_⟩⟩
            refine wv 9 rfl ?_
            refine od_neP hr.units (.inl rfl) (.inl rfl) ?_
            rw [decide_eq_true (rfl)]
            refine ⟨_, rfl, ?_⟩
            refine ⟨fun hb => ?_, fun hb => ?_⟩
            · walk_at "dead"
            · walk_at "tidy"
              refine ww_or1 ?_
              refine wt_cmp ?_ (nomark _)
              refine we_attr ?_ (by rfl)
              refine wv 8 rfl ?_
              refine at_prop hTot (hr.mono (by decide)) (.inl rfl) hS.cls (use_total (bd4 cu (su.up (by omega))) ?_)
              refine wcB B.len boot_len ?_
              refine wa_cons ?_
              refine wv 9 rfl ?_
              refine wa_nil ?_
              refine cd_len_lst ?_
              refine od_neF (by rw [List.length_map, len_list cu]) ?_
              refine ⟨_, rfl, ?_⟩
              refine ⟨fun hb => ?_, fun hb => ?_⟩
              · walk_at "dead"
              · walk_at "tidy"
                refine ws_nil ?_
                refine ws_if ?_
                refine wt_bool ?_
                refine ww_or ?_
                refine wt_not ?_
                refine wt_val ?_ (by intro _; rfl)
                refine wcB B.isi boot_isinstance ?_
                refine wa_cons ?_
                refine wv 8 rfl ?_
                refine wa_cons ?_
                refine wgl hCls ?_
                refine wa_nil ?_
                refine cd_isiC (.inl rfl) hI kit_self ?_
                walk_at "truth"
                refine ⟨fun hb => ?_, fun hb => ?_⟩
                · walk_at "dead"
                · walk_at "tidy"
                  refine ww_or1 ?_
                  refine wt_cmp ?_ (nomark _)
                  refine wcT B.bool boot_bool ?_
                  refine wa_cons ?_
                  refine wv 8 rfl ?_
                  refine wa_nil ?_
                  refine cd_boolO hB (hr.mono (by decide)) (.inl rfl) (use_boolG ⟨_, rfl, ?_⟩)
                  refine we_cmp ?_ (nomark _)
                  refine wv 9 rfl ?_
                  refine we_lst ?_
                  refine wa_nil ?_
                  refine ⟨(by walk_at "size"), ?_⟩
                  refine od_neP (bs := []) hr.units (.inl rfl) (.inl rfl) ?_
                  refine od_neB ?_
                  rw [decide_eq_true (some_list cu)]
                  refine ⟨_, rfl, ?_⟩
                  refine ⟨fun hb => ?_, fun hb => ?_⟩
                  · walk_at "dead"
                  · walk_at "tidy"
                    refine ws_nil ?_
                    refine ws_par 5 6 sc_law.nd ?_
                    refine wa_cons ?_
                    refine wv 8 rfl ?_
                    refine wa_cons ?_
                    refine wv 9 rfl ?_
                    refine wa_nil ?_
                    refine ⟨_, _, rfl, ?_⟩
                    refine ws_wk (Γ' := [some (.lst (ns.map .int)), some (.int (i : Int)), some (.adr l), some (.int (j : Int)), none, some (spanD C u), some (psD (listL u)), none, none, none, none, none, none]) (M' := [(l, o2)]) (by repeat (first | exact wkE | refine wkS ?_ | refine wkN ?_)) (List.Sublist.refl _) ?_
                    refine ws_nil ?_
                    exact ⟨u, o2, cu, su.up (by omega), ho2.up (by omega), rfl, rfl⟩
        · rintro Γ' M' ⟨t, o3, ct, st, ho3, rfl, rfl⟩
          refine ws_wk (Γ' := [some (.lst (ns.map .int)), some (.int (i : Int)), some (.adr l), none, none, none, none, none, none, none, none, none, none]) (M' := [(l, o3)]) (by repeat (first | exact wkE | refine wkS ?_ | refine wkN ?_)) (List.Sublist.refl _) ?_
          refine ws_nil ?_
          exact ⟨rfl, o3, ho3.up (by omega), rfl⟩
      · rintro Γ' M' ⟨rfl, o, ho, rfl⟩
        refine ws_wk (Γ' := [some (.lst (ns.map .int)), none, none, none, none, none, none, none, none, none, none, none, none]) (M' := []) (by repeat (first | exact wkE | refine wkS ?_ | refine wkN ?_)) (List.nil_sublist _) ?_
        refine ws_nil ?_
        exact ⟨rfl, rfl⟩
    · rintro Γ' M' ⟨rfl, rfl⟩
      refine ws_set 10 sc_law.nd ?_
      refine wmkS hM (hr.mono (by decide)) ?_
      refine wa_cons ?_
      refine we_tup ?_
      refine wa_cons ?_
      refine we_int ?_
      refine wa_cons ?_
      refine we_int ?_
      refine wa_nil ?_
      refine ⟨(by walk_at "size"), ?_⟩
      refine wa_cons ?_
      refine we_tup ?_
      refine wa_cons ?_
      refine we_int ?_
      refine wa_cons ?_
      refine we_int ?_
      refine wa_nil ?_
      refine ⟨(by walk_at "size"), ?_⟩
      refine wa_cons ?_
      refine we_tup ?_
      refine wa_cons ?_
      refine we_int ?_
      refine wa_cons ?_
      refine we_int ?_
      refine wa_nil ?_
      refine ⟨(by walk_at "size"), ?_⟩
      refine wa_nil ?_
      refine ⟨_, _, _, _, _, _, rfl, ?_⟩
      refine ws_wk (Γ' := [some (.lst (ns.map .int)), none, none, none, none, none, none, none, none, none, some (spanD C none), none, none]) (M' := []) (by repeat (first | exact wkE | refine wkS ?_ | refine wkN ?_)) (List.Sublist.refl _) ?_
      refine ws_set 11 sc_law.nd ?_
      refine we_lst ?_
      refine wa_cons ?_
      refine wme hSt (hr.mono (by decide)) hS.cls ?_
      refine wv 10 rfl ?_
      refine ⟨⟨flds _, .inl rfl, flds_no (by decide) (by decide) (by decide)⟩, ?_⟩
      refine wa_cons ?_
      refine we_int ?_
      refine wa_cons ?_
      refine we_int ?_
      refine wa_cons ?_
      refine we_int ?_
      refine wa_nil ?_
      refine use_stepped ?_
      refine wa_cons ?_
      refine wme hSi (hr.mono (by decide)) hS.cls ?_
      refine wv 10 rfl ?_
      refine ⟨⟨flds _, .inl rfl, flds_no (by decide) (by decide) (by decide)⟩, ?_⟩
      refine wa_cons ?_
      refine we_int ?_
      refine wa_cons ?_
      refine we_int ?_
      refine wa_cons ?_
      refine we_int ?_
      refine wa_nil ?_
      refine use_sighted (lo := some 0) (hi := some 9) ?_
      refine wa_cons ?_
      refine we_bin ?_
      refine wv 10 rfl ?_
      refine wmkS hM (hr.mono (by decide)) ?_
      refine wa_cons ?_
      refine we_tup ?_
      refine wa_cons ?_
      refine we_int ?_
      refine wa_cons ?_
      refine we_int ?_
      refine wa_nil ?_
      refine ⟨(by walk_at "size"), ?_⟩
      refine wa_cons ?_
      refine we_tup ?_
      refine wa_cons ?_
      refine we_int ?_
      refine wa_cons ?_
      refine we_int ?_
      refine wa_nil ?_
      refine ⟨(by walk_at "size"), ?_⟩
      refine wa_cons ?_
      refine we_tup ?_
      refine wa_cons ?_
      refine we_int ?_
      refine wa_cons ?_
      refine we_int ?_
      refine wa_nil ?_
      refine ⟨(by walk_at "size"), ?_⟩
      refine wa_nil ?_
      refine ⟨_, _, _, _, _, _, rfl, ?_⟩
      refine od_ownB hAnd rfl hSF (hr.mono (by decide)) (.inl rfl) (.inl rfl) (use_and ?_)
      refine wa_nil ?_
      refine ⟨(by walk_at "size"), ?_⟩
      refine ws_wk (Γ' := [some (.lst (ns.map .int)), none, none, none, none, none, none, none, none, none, some (spanD C none), some (.lst [spanD C none, spanD C none, spanD C none]), none]) (M' := []) (by repeat (first | exact wkE | refine wkS ?_ | refine wkN ?_)) (List.Sublist.refl _) ?_
      refine ws_ret ?_
      refine we_and ?_
      refine we_cmp ?_ (nomark _)
      refine lcMapLF (own := [("_law_one", 12)]) (j := 12) sc_law.nd ?_ (blkOk_by (N := ["_law_script", "_law_k", "_law_box", "_law_turn", "_law_bounds_here", "_law_made", "_law_pairs", "_law_more", "_law_after", "_law_due", "_law_empty", "_law_some", "_law_one"]) (sc := defScope s_law) (by decide +kernel)) (fun _ _ _ _ _ => pg_name (i := 12) sc_law.nd rfl (Or.inl rfl))
      refine wv 11 rfl ?_
      refine ⟨_, fun _ => false, fun y => y, rfl, (show 3 < sizeLine by decide), fun i y hy l out s H C' cl fp => ?_, fun i y hy hf => (by cases hf), ?_⟩
      · obtain rfl := three_none (List.mem_of_getElem? hy)
        refine wt_bool ?_
        refine ww_or ?_
        refine wt_cmp ?_ (nomark _)
        refine wv 12 rfl ?_
        refine wv 10 rfl ?_
        refine od_ownNe hEq hNe (hr.mono (by decide)) (.inl rfl) (.inl rfl) (use_eq ⟨_, rfl, ?_⟩)
        rw [eqB_iff.mpr (rfl)]
        refine ⟨_, rfl, ?_⟩
        refine ⟨fun hb => ?_, fun hb => ?_⟩
        · walk_at "dead"
        · walk_at "tidy"
          refine ww_or1 ?_
          refine wt_cmp ?_ (nomark _)
          refine we_attr ?_ (by rfl)
          refine wv 12 rfl ?_
          refine at_fld (.inl rfl) lk_here hS.cls hS.nb ?_
          refine we_non ?_
          walk_at "op"
          refine ⟨_, rfl, ?_⟩
          exact ⟨rfl, rfl⟩
      rw [filt_no, List.map_nil]
      refine we_lst ?_
      refine wa_nil ?_
      refine ⟨(by walk_at "size"), ?_⟩
      refine od_eqSame hr.units rfl rfl ?_
      refine ⟨_, rfl, fun hb => ?_, fun hb => ?_⟩
      · walk_at "tidy"
        refine we_one ?_
        refine we_cmp ?_ (nomark _)
        refine wme hLs (hr.mono (by decide)) hS.cls ?_
        refine wv 10 rfl ?_
        refine ⟨⟨flds _, .inl rfl, flds_no (by decide) (by decide) (by decide)⟩, ?_⟩
        refine wa_cons ?_
        refine wv 10 rfl ?_
        refine wa_nil ?_
        refine use_less ?_
        refine we_tup ?_
        refine wa_nil ?_
        refine ⟨(by walk_at "size"), ?_⟩
        refine od_eqSame hr.units rfl rfl ?_
        exact qq _
      · walk_at "dead"
end
end Sl57

set_option Elab.async false
set_option linter.all false
set_option maxRecDepth 100000
set_option maxHeartbeats 0
namespace Sl57
open PySem PySem.Spec PyProof.Rows L2 Dt
theorem law_start {K : Fg} {H : Hp} {a : Addr} {ns : List Int} (hl : ns.length ≤ 63) (hS : SqL K H a (ns.map V.int)) : spOf K S_law [.ref a] H (fun v _ => v = .bl true) fun _ _ _ => False :=
  ⟨H, [], [.lst (ns.map .int)], fun d _ => d = .bl true, .cons (.lst hS (IsDs.ints (K := K) (P := H) ns).1 (IsDs.ints (K := K) (P := H) ns).2) .nil, ⟨Same.refl H, List.nodup_nil, fun _ _ h => by cases h⟩, ⟨ns, rfl, hl, rfl, fun _ => rfl⟩, fun v H' ⟨d, M', P', e, _, _, i⟩ => by
    subst e
    cases i
    rfl⟩
def fa : List He.Fa := [.free "len", .free "all", .free "any", .free "isinstance", .free "int", .free "bool", .free "str", .free "tuple", .free "list", .free "range", .free "enumerate", .free "zip", .free "abs", .free "max", .free "min", .free "sum", .free "sorted", .free "repr", .free "set", .cls "Span", .noat "Span" "belief", .noat "Span" "place", .noat "Span" "error", .glo "Span", .glo "is_integer", .glo "are_integers", .glo "is_cell", .glo "greater", .glo "lesser", .glo "tightened", .glo "sum_of_lesser", .mkr "Span", .meth "Span" "__bool__", .meth "Span" "places_at", .meth "Span" "__contains__", .meth "Span" "limited", .meth "Span" "stepped", .meth "Span" "sighted", .meth "Span" "less", .meth "Span" "__and__", .meth "Span" "__le__", .meth "Span" "__eq__", .glo "_law_feed", .glo "_law_take", .glo "_law_pick", .glo "_law_bounds", .glo "_law_all", .glo "_law_listed", .glo "_law_sorted", .glo "_law_changed", .glo "law"]
def fn : List Df := [⟨locG "is_integer", "is_integer", "is_integer", defArgs s_is_integer, defBody s_is_integer, defScope s_is_integer, [], []⟩,
  ⟨locG "are_integers", "are_integers", "are_integers", defArgs s_are_integers, defBody s_are_integers, defScope s_are_integers, [], []⟩,
  ⟨locG "is_cell", "is_cell", "is_cell", defArgs s_is_cell, defBody s_is_cell, defScope s_is_cell, [], []⟩,
  ⟨locG "greater", "greater", "greater", defArgs s_greater, defBody s_greater, defScope s_greater, [], []⟩,
  ⟨locG "lesser", "lesser", "lesser", defArgs s_lesser, defBody s_lesser, defScope s_lesser, [], []⟩,
  ⟨locG "tightened", "tightened", "tightened", defArgs s_tightened, defBody s_tightened, defScope s_tightened, [], []⟩,
  ⟨locG "sum_of_lesser", "sum_of_lesser", "sum_of_lesser", defArgs s_sum_of_lesser, defBody s_sum_of_lesser, defScope s_sum_of_lesser, [], []⟩,
  ⟨locM "Span" "__init__", "__init__", "Span.__init__", defArgs s_Span_init, defBody s_Span_init, defScope s_Span_init, [], []⟩,
  ⟨locM "Span" "__bool__", "__bool__", "Span.__bool__", defArgs s_Span_bool, defBody s_Span_bool, defScope s_Span_bool, [], []⟩,
  ⟨locM "Span" "places_at", "places_at", "Span.places_at", defArgs s_Span_places_at, defBody s_Span_places_at, defScope s_Span_places_at, [], []⟩,
  ⟨locM "Span" "__contains__", "__contains__", "Span.__contains__", defArgs s_Span_contains, defBody s_Span_contains, defScope s_Span_contains, [], []⟩,
  ⟨locP "Span" "total", "total", "Span.total", defArgs s_Span_total, defBody s_Span_total, defScope s_Span_total, [], []⟩,
  ⟨locM "Span" "limited", "limited", "Span.limited", defArgs s_Span_limited, defBody s_Span_limited, defScope s_Span_limited, [], []⟩,
  ⟨locM "Span" "stepped", "stepped", "Span.stepped", defArgs s_Span_stepped, defBody s_Span_stepped, defScope s_Span_stepped, [], []⟩,
  ⟨locM "Span" "sighted", "sighted", "Span.sighted", defArgs s_Span_sighted, defBody s_Span_sighted, defScope s_Span_sighted, [], []⟩,
  ⟨locM "Span" "less", "less", "Span.less", defArgs s_Span_less, defBody s_Span_less, defScope s_Span_less, [], []⟩,
  ⟨locM "Span" "__and__", "__and__", "Span.__and__", defArgs s_Span_and, defBody s_Span_and, defScope s_Span_and, [], []⟩,
  ⟨locM "Span" "__le__", "__le__", "Span.__le__", defArgs s_Span_le, defBody s_Span_le, defScope s_Span_le, [], []⟩,
  ⟨locM "Span" "__eq__", "__eq__", "Span.__eq__", defArgs s_Span_eq, defBody s_Span_eq, defScope s_Span_eq, [], []⟩,
  ⟨locG "_law_feed", "_law_feed", "_law_feed", defArgs s_Lfeed, defBody s_Lfeed, defScope s_Lfeed, [], []⟩,
  ⟨locG "_law_take", "_law_take", "_law_take", defArgs s_Ltake, defBody s_Ltake, defScope s_Ltake, [], []⟩,
  ⟨locG "_law_pick", "_law_pick", "_law_pick", defArgs s_Lpick, defBody s_Lpick, defScope s_Lpick, [], []⟩,
  ⟨locG "_law_bounds", "_law_bounds", "_law_bounds", defArgs s_Lbounds, defBody s_Lbounds, defScope s_Lbounds, [], []⟩,
  ⟨locG "_law_all", "_law_all", "_law_all", defArgs s_Lall, defBody s_Lall, defScope s_Lall, [], []⟩,
  ⟨locG "_law_listed", "_law_listed", "_law_listed", defArgs s_Llisted, defBody s_Llisted, defScope s_Llisted, [], []⟩,
  ⟨locG "_law_sorted", "_law_sorted", "_law_sorted", defArgs s_Lsorted, defBody s_Lsorted, defScope s_Lsorted, [], []⟩,
  ⟨locG "_law_changed", "_law_changed", "_law_changed", defArgs s_Lchanged, defBody s_Lchanged, defScope s_Lchanged, [], []⟩,
  ⟨locG "law", "law", "law", defArgs s_law, defBody s_law, defScope s_law, [], []⟩]
def ex (K : Fg) : Bool := (isB K "Span") && (neB K "Span") && (PySem.W.selfFirst K (He.ga K "Span")) && (propB K "Span" "total")
theorem ex_0 {K : Fg} (h : ex K = true) : (isB K "Span") = true := by
  unfold ex at h
  simp only [Bool.and_eq_true] at h
  simp only [h]
theorem ex_1 {K : Fg} (h : ex K = true) : (neB K "Span") = true := by
  unfold ex at h
  simp only [Bool.and_eq_true] at h
  simp only [h]
theorem ex_2 {K : Fg} (h : ex K = true) : (PySem.W.selfFirst K (He.ga K "Span")) = true := by
  unfold ex at h
  simp only [Bool.and_eq_true] at h
  simp only [h]
theorem ex_3 {K : Fg} (h : ex K = true) : (propB K "Span" "total") = true := by
  unfold ex at h
  simp only [Bool.and_eq_true] at h
  simp only [h]
abbrev R : PySem.W.OpenRow := PySem.W.OpenLaw.row PySem.Challenge.rw_slipsights_k28_spans_stepped_and_sighted
abbrev hk : PySem.W.Hook := hookP 6 fa fn ex
def ob : PySem.W.SharedT → AlP := obP 6 fa fn ex
theorem ob_eq (s : PySem.W.SharedT) : ob s = hk.obs s.abs := obP_eq s
def loose : List PySem.Str := ["SightError", "InvalidSpan", "is_integer", "are_integers", "is_cell", "greater", "lesser", "tightened", "sum_of_lesser", "Span", "_law_feed", "_law_take", "_law_pick", "_law_bounds", "_law_listed", "_law_all", "_law_sorted", "_law_changed"]
theorem run (w : World) : HandSHeadRun.RunEq R (PySem.W.view R.prog [22]) hk ob 20000 loose w := by
  intro os
  kernel_rfl
theorem facts {P : Program} {w : World} {K : Fg} {h : Heap} {mg : Str → Option Value} {f : Addr} (X : K.In h) (G : h.Ns mainGlobals mg) (hfa : mg ("law" : Str) = some (.ref f)) (c : Told fa fn ex K) :
    ∃ fd : FuncData, (∀ (s : Shared) (v : Value), BindsTo s fd ⟨[v], []⟩ [("_law_script", v)]) ∧ ∀ base : Heap, K.In base → base.Ns mainGlobals mg → FnOk P w K mg base CX0 9 f fd ["_law_script"] (spOf K S_law) := by
  have B : Bf mg := ⟨He.free_ok X G (c.fact (.free "len") (List.mem_of_getElem? (i := 0) rfl)), He.free_ok X G (c.fact (.free "all") (List.mem_of_getElem? (i := 1) rfl)), He.free_ok X G (c.fact (.free "any") (List.mem_of_getElem? (i := 2) rfl)), He.free_ok X G (c.fact (.free "isinstance") (List.mem_of_getElem? (i := 3) rfl)), He.free_ok X G (c.fact (.free "int") (List.mem_of_getElem? (i := 4) rfl)), He.free_ok X G (c.fact (.free "bool") (List.mem_of_getElem? (i := 5) rfl)), He.free_ok X G (c.fact (.free "str") (List.mem_of_getElem? (i := 6) rfl)), He.free_ok X G (c.fact (.free "tuple") (List.mem_of_getElem? (i := 7) rfl)), He.free_ok X G (c.fact (.free "list") (List.mem_of_getElem? (i := 8) rfl)), He.free_ok X G (c.fact (.free "range") (List.mem_of_getElem? (i := 9) rfl)), He.free_ok X G (c.fact (.free "enumerate") (List.mem_of_getElem? (i := 10) rfl)), He.free_ok X G (c.fact (.free "zip") (List.mem_of_getElem? (i := 11) rfl)), He.free_ok X G (c.fact (.free "abs") (List.mem_of_getElem? (i := 12) rfl)), He.free_ok X G (c.fact (.free "max") (List.mem_of_getElem? (i := 13) rfl)), He.free_ok X G (c.fact (.free "min") (List.mem_of_getElem? (i := 14) rfl)), He.free_ok X G (c.fact (.free "sum") (List.mem_of_getElem? (i := 15) rfl)), He.free_ok X G (c.fact (.free "sorted") (List.mem_of_getElem? (i := 16) rfl)), He.free_ok X G (c.fact (.free "repr") (List.mem_of_getElem? (i := 17) rfl)), He.free_ok X G (c.fact (.free "set") (List.mem_of_getElem? (i := 18) rfl))⟩
  have hS : SpC K (He.ga K "Span") := ⟨He.cls_ok (c.fact (.cls "Span") (List.mem_of_getElem? (i := 19) rfl)), He.noat_ok (c.fact (.noat "Span" "belief") (List.mem_of_getElem? (i := 20) rfl)), He.noat_ok (c.fact (.noat "Span" "place") (List.mem_of_getElem? (i := 21) rfl)), He.noat_ok (c.fact (.noat "Span" "error") (List.mem_of_getElem? (i := 22) rfl))⟩
  have hI : IsF K (He.ga K "Span") := isB_ok hS.cls (ex_0 c.more)
  have hNe : NeF K (He.ga K "Span") := neB_ok (ex_1 c.more)
  have hSF : PySem.W.selfFirst K (He.ga K "Span") = true := (ex_2 c.more)
  have hCls : mg "Span" = some (.ref (He.ga K "Span")) := He.glo_ok X G (c.fact (.glo "Span") (List.mem_of_getElem? (i := 23) rfl))
  obtain ⟨fd_is_integer, F0_is_integer⟩ := c.defn _ (List.mem_of_getElem? (i := 0) rfl)
  have F_is_integer : FunD K "is_integer" "is_integer" (defArgs s_is_integer) (defBody s_is_integer) (defScope s_is_integer) [] [] (locG "is_integer" K) fd_is_integer := F0_is_integer
  have b_is_integer := FunD.bindsN (ps := ["value"]) F_is_integer fun _ _ _ _ _ _ us hl => match us, hl with | [_], _ => rfl
  obtain ⟨fd_are_integers, F0_are_integers⟩ := c.defn _ (List.mem_of_getElem? (i := 1) rfl)
  have F_are_integers : FunD K "are_integers" "are_integers" (defArgs s_are_integers) (defBody s_are_integers) (defScope s_are_integers) [] [] (locG "are_integers" K) fd_are_integers := F0_are_integers
  have b_are_integers := FunD.bindsN (ps := ["value", "many"]) F_are_integers fun _ _ _ _ _ _ us hl => match us, hl with | [_, _], _ => rfl
  obtain ⟨fd_is_cell, F0_is_cell⟩ := c.defn _ (List.mem_of_getElem? (i := 2) rfl)
  have F_is_cell : FunD K "is_cell" "is_cell" (defArgs s_is_cell) (defBody s_is_cell) (defScope s_is_cell) [] [] (locG "is_cell" K) fd_is_cell := F0_is_cell
  have b_is_cell := FunD.bindsN (ps := ["value"]) F_is_cell fun _ _ _ _ _ _ us hl => match us, hl with | [_], _ => rfl
  obtain ⟨fd_greater, F0_greater⟩ := c.defn _ (List.mem_of_getElem? (i := 3) rfl)
  have F_greater : FunD K "greater" "greater" (defArgs s_greater) (defBody s_greater) (defScope s_greater) [] [] (locG "greater" K) fd_greater := F0_greater
  have b_greater := FunD.bindsN (ps := ["one", "other"]) F_greater fun _ _ _ _ _ _ us hl => match us, hl with | [_, _], _ => rfl
  obtain ⟨fd_lesser, F0_lesser⟩ := c.defn _ (List.mem_of_getElem? (i := 4) rfl)
  have F_lesser : FunD K "lesser" "lesser" (defArgs s_lesser) (defBody s_lesser) (defScope s_lesser) [] [] (locG "lesser" K) fd_lesser := F0_lesser
  have b_lesser := FunD.bindsN (ps := ["one", "other"]) F_lesser fun _ _ _ _ _ _ us hl => match us, hl with | [_, _], _ => rfl
  obtain ⟨fd_tightened, F0_tightened⟩ := c.defn _ (List.mem_of_getElem? (i := 5) rfl)
  have F_tightened : FunD K "tightened" "tightened" (defArgs s_tightened) (defBody s_tightened) (defScope s_tightened) [] [] (locG "tightened" K) fd_tightened := F0_tightened
  have b_tightened := FunD.bindsN (ps := ["belief", "place", "error"]) F_tightened fun _ _ _ _ _ _ us hl => match us, hl with | [_, _, _], _ => rfl
  obtain ⟨fd_sum_of_lesser, F0_sum_of_lesser⟩ := c.defn _ (List.mem_of_getElem? (i := 6) rfl)
  have F_sum_of_lesser : FunD K "sum_of_lesser" "sum_of_lesser" (defArgs s_sum_of_lesser) (defBody s_sum_of_lesser) (defScope s_sum_of_lesser) [] [] (locG "sum_of_lesser" K) fd_sum_of_lesser := F0_sum_of_lesser
  have b_sum_of_lesser := FunD.bindsN (ps := ["low", "high", "add", "most"]) F_sum_of_lesser fun _ _ _ _ _ _ us hl => match us, hl with | [_, _, _, _], _ => rfl
  obtain ⟨fd_Span_init, F0_Span_init⟩ := c.defn _ (List.mem_of_getElem? (i := 7) rfl)
  have F_Span_init : FunD K "__init__" "Span.__init__" (defArgs s_Span_init) (defBody s_Span_init) (defScope s_Span_init) [] [] (locM "Span" "__init__" K) fd_Span_init := F0_Span_init
  have b_Span_init := FunD.bindsN (ps := ["self", "belief", "place", "error"]) F_Span_init fun _ _ _ _ _ _ us hl => match us, hl with | [_, _, _, _], _ => rfl
  obtain ⟨fd_Span_bool, F0_Span_bool⟩ := c.defn _ (List.mem_of_getElem? (i := 8) rfl)
  have F_Span_bool : FunD K "__bool__" "Span.__bool__" (defArgs s_Span_bool) (defBody s_Span_bool) (defScope s_Span_bool) [] [] (locM "Span" "__bool__" K) fd_Span_bool := F0_Span_bool
  have b_Span_bool := FunD.bindsN (ps := ["self"]) F_Span_bool fun _ _ _ _ _ _ us hl => match us, hl with | [_], _ => rfl
  obtain ⟨fd_Span_places_at, F0_Span_places_at⟩ := c.defn _ (List.mem_of_getElem? (i := 9) rfl)
  have F_Span_places_at : FunD K "places_at" "Span.places_at" (defArgs s_Span_places_at) (defBody s_Span_places_at) (defScope s_Span_places_at) [] [] (locM "Span" "places_at" K) fd_Span_places_at := F0_Span_places_at
  have b_Span_places_at := FunD.bindsN (ps := ["self", "number"]) F_Span_places_at fun _ _ _ _ _ _ us hl => match us, hl with | [_, _], _ => rfl
  obtain ⟨fd_Span_contains, F0_Span_contains⟩ := c.defn _ (List.mem_of_getElem? (i := 10) rfl)
  have F_Span_contains : FunD K "__contains__" "Span.__contains__" (defArgs s_Span_contains) (defBody s_Span_contains) (defScope s_Span_contains) [] [] (locM "Span" "__contains__" K) fd_Span_contains := F0_Span_contains
  have b_Span_contains := FunD.bindsN (ps := ["self", "value"]) F_Span_contains fun _ _ _ _ _ _ us hl => match us, hl with | [_, _], _ => rfl
  obtain ⟨fd_Span_total, F0_Span_total⟩ := c.defn _ (List.mem_of_getElem? (i := 11) rfl)
  have F_Span_total : FunD K "total" "Span.total" (defArgs s_Span_total) (defBody s_Span_total) (defScope s_Span_total) [] [] (locP "Span" "total" K) fd_Span_total := F0_Span_total
  have b_Span_total := FunD.bindsN (ps := ["self"]) F_Span_total fun _ _ _ _ _ _ us hl => match us, hl with | [_], _ => rfl
  obtain ⟨fd_Span_limited, F0_Span_limited⟩ := c.defn _ (List.mem_of_getElem? (i := 12) rfl)
  have F_Span_limited : FunD K "limited" "Span.limited" (defArgs s_Span_limited) (defBody s_Span_limited) (defScope s_Span_limited) [] [] (locM "Span" "limited" K) fd_Span_limited := F0_Span_limited
  have b_Span_limited := FunD.bindsN (ps := ["self", "word", "low", "high"]) F_Span_limited fun _ _ _ _ _ _ us hl => match us, hl with | [_, _, _, _], _ => rfl
  obtain ⟨fd_Span_stepped, F0_Span_stepped⟩ := c.defn _ (List.mem_of_getElem? (i := 13) rfl)
  have F_Span_stepped : FunD K "stepped" "Span.stepped" (defArgs s_Span_stepped) (defBody s_Span_stepped) (defScope s_Span_stepped) [] [] (locM "Span" "stepped" K) fd_Span_stepped := F0_Span_stepped
  have b_Span_stepped := FunD.bindsN (ps := ["self", "by", "low", "high"]) F_Span_stepped fun _ _ _ _ _ _ us hl => match us, hl with | [_, _, _, _], _ => rfl
  obtain ⟨fd_Span_sighted, F0_Span_sighted⟩ := c.defn _ (List.mem_of_getElem? (i := 14) rfl)
  have F_Span_sighted : FunD K "sighted" "Span.sighted" (defArgs s_Span_sighted) (defBody s_Span_sighted) (defScope s_Span_sighted) [] [] (locM "Span" "sighted" K) fd_Span_sighted := F0_Span_sighted
  have b_Span_sighted := FunD.bindsN (ps := ["self", "low", "high", "blur"]) F_Span_sighted fun _ _ _ _ _ _ us hl => match us, hl with | [_, _, _, _], _ => rfl
  obtain ⟨fd_Span_less, F0_Span_less⟩ := c.defn _ (List.mem_of_getElem? (i := 15) rfl)
  have F_Span_less : FunD K "less" "Span.less" (defArgs s_Span_less) (defBody s_Span_less) (defScope s_Span_less) [] [] (locM "Span" "less" K) fd_Span_less := F0_Span_less
  have b_Span_less := FunD.bindsN (ps := ["self", "other"]) F_Span_less fun _ _ _ _ _ _ us hl => match us, hl with | [_, _], _ => rfl
  obtain ⟨fd_Span_and, F0_Span_and⟩ := c.defn _ (List.mem_of_getElem? (i := 16) rfl)
  have F_Span_and : FunD K "__and__" "Span.__and__" (defArgs s_Span_and) (defBody s_Span_and) (defScope s_Span_and) [] [] (locM "Span" "__and__" K) fd_Span_and := F0_Span_and
  have b_Span_and := FunD.bindsN (ps := ["self", "other"]) F_Span_and fun _ _ _ _ _ _ us hl => match us, hl with | [_, _], _ => rfl
  obtain ⟨fd_Span_le, F0_Span_le⟩ := c.defn _ (List.mem_of_getElem? (i := 17) rfl)
  have F_Span_le : FunD K "__le__" "Span.__le__" (defArgs s_Span_le) (defBody s_Span_le) (defScope s_Span_le) [] [] (locM "Span" "__le__" K) fd_Span_le := F0_Span_le
  have b_Span_le := FunD.bindsN (ps := ["self", "other"]) F_Span_le fun _ _ _ _ _ _ us hl => match us, hl with | [_, _], _ => rfl
  obtain ⟨fd_Span_eq, F0_Span_eq⟩ := c.defn _ (List.mem_of_getElem? (i := 18) rfl)
  have F_Span_eq : FunD K "__eq__" "Span.__eq__" (defArgs s_Span_eq) (defBody s_Span_eq) (defScope s_Span_eq) [] [] (locM "Span" "__eq__" K) fd_Span_eq := F0_Span_eq
  have b_Span_eq := FunD.bindsN (ps := ["self", "other"]) F_Span_eq fun _ _ _ _ _ _ us hl => match us, hl with | [_, _], _ => rfl
  obtain ⟨fd_Lfeed, F0_Lfeed⟩ := c.defn _ (List.mem_of_getElem? (i := 19) rfl)
  have F_Lfeed : FunD K "_law_feed" "_law_feed" (defArgs s_Lfeed) (defBody s_Lfeed) (defScope s_Lfeed) [] [] (locG "_law_feed" K) fd_Lfeed := F0_Lfeed
  have b_Lfeed := FunD.bindsN (ps := ["_law_script", "_law_k"]) F_Lfeed fun _ _ _ _ _ _ us hl => match us, hl with | [_, _], _ => rfl
  obtain ⟨fd_Ltake, F0_Ltake⟩ := c.defn _ (List.mem_of_getElem? (i := 20) rfl)
  have F_Ltake : FunD K "_law_take" "_law_take" (defArgs s_Ltake) (defBody s_Ltake) (defScope s_Ltake) [] [] (locG "_law_take" K) fd_Ltake := F0_Ltake
  have b_Ltake := FunD.bindsN (ps := ["_law_box", "_law_many"]) F_Ltake fun _ _ _ _ _ _ us hl => match us, hl with | [_, _], _ => rfl
  obtain ⟨fd_Lpick, F0_Lpick⟩ := c.defn _ (List.mem_of_getElem? (i := 21) rfl)
  have F_Lpick : FunD K "_law_pick" "_law_pick" (defArgs s_Lpick) (defBody s_Lpick) (defScope s_Lpick) [] [] (locG "_law_pick" K) fd_Lpick := F0_Lpick
  have b_Lpick := FunD.bindsN (ps := ["_law_box", "_law_some"]) F_Lpick fun _ _ _ _ _ _ us hl => match us, hl with | [_, _], _ => rfl
  obtain ⟨fd_Lbounds, F0_Lbounds⟩ := c.defn _ (List.mem_of_getElem? (i := 22) rfl)
  have F_Lbounds : FunD K "_law_bounds" "_law_bounds" (defArgs s_Lbounds) (defBody s_Lbounds) (defScope s_Lbounds) [] [] (locG "_law_bounds" K) fd_Lbounds := F0_Lbounds
  have b_Lbounds := FunD.bindsN (ps := ["_law_box"]) F_Lbounds fun _ _ _ _ _ _ us hl => match us, hl with | [_], _ => rfl
  obtain ⟨fd_Lall, F0_Lall⟩ := c.defn _ (List.mem_of_getElem? (i := 23) rfl)
  have F_Lall : FunD K "_law_all" "_law_all" (defArgs s_Lall) (defBody s_Lall) (defScope s_Lall) [] [] (locG "_law_all" K) fd_Lall := F0_Lall
  have b_Lall := FunD.bindsN (ps := ["_law_bounds_here"]) F_Lall fun _ _ _ _ _ _ us hl => match us, hl with | [_], _ => rfl
  obtain ⟨fd_Llisted, F0_Llisted⟩ := c.defn _ (List.mem_of_getElem? (i := 24) rfl)
  have F_Llisted : FunD K "_law_listed" "_law_listed" (defArgs s_Llisted) (defBody s_Llisted) (defScope s_Llisted) [] [] (locG "_law_listed" K) fd_Llisted := F0_Llisted
  have b_Llisted := FunD.bindsN (ps := ["_law_span"]) F_Llisted fun _ _ _ _ _ _ us hl => match us, hl with | [_], _ => rfl
  obtain ⟨fd_Lsorted, F0_Lsorted⟩ := c.defn _ (List.mem_of_getElem? (i := 25) rfl)
  have F_Lsorted : FunD K "_law_sorted" "_law_sorted" (defArgs s_Lsorted) (defBody s_Lsorted) (defScope s_Lsorted) [] [] (locG "_law_sorted" K) fd_Lsorted := F0_Lsorted
  have b_Lsorted := FunD.bindsN (ps := ["_law_pairs"]) F_Lsorted fun _ _ _ _ _ _ us hl => match us, hl with | [_], _ => rfl
  obtain ⟨fd_Lchanged, F0_Lchanged⟩ := c.defn _ (List.mem_of_getElem? (i := 26) rfl)
  have F_Lchanged : FunD K "_law_changed" "_law_changed" (defArgs s_Lchanged) (defBody s_Lchanged) (defScope s_Lchanged) [] [] (locG "_law_changed" K) fd_Lchanged := F0_Lchanged
  have b_Lchanged := FunD.bindsN (ps := ["_law_box", "_law_made", "_law_pairs"]) F_Lchanged fun _ _ _ _ _ _ us hl => match us, hl with | [_, _, _], _ => rfl
  obtain ⟨fd_law, F0_law⟩ := c.defn _ (List.mem_of_getElem? (i := 27) rfl)
  have F_law : FunD K "law" "law" (defArgs s_law) (defBody s_law) (defScope s_law) [] [] (locG "law" K) fd_law := F0_law
  have b_law := FunD.bindsN (ps := ["_law_script"]) F_law fun _ _ _ _ _ _ us hl => match us, hl with | [_], _ => rfl
  have e := hfa.symm.trans (He.glo_ok X G (c.fact (.glo "law") (List.mem_of_getElem? (i := 50) rfl)))
  cases e
  have b := FunD.bindsA (ps := ["_law_script"]) F_law fun _ _ _ _ _ _ us hl => match us, hl with | [_], _ => rfl
  refine ⟨fd_law, fun s v => b s [v] rfl, fun base _ _ => ?_⟩
  have h_is_integer : HasFn P w K mg base 1 "is_integer" S_is_integer := hasFn X G F_is_integer b_is_integer (c.fact (.glo "is_integer") (List.mem_of_getElem? (i := 24) rfl)) (ok_is_integer F_is_integer B)
  have h_are_integers : HasFn P w K mg base 2 "are_integers" S_are_integers := hasFn X G F_are_integers b_are_integers (c.fact (.glo "are_integers") (List.mem_of_getElem? (i := 25) rfl)) (ok_are_integers F_are_integers B h_is_integer)
  have h_is_cell : HasFn P w K mg base 3 "is_cell" S_is_cell := hasFn X G F_is_cell b_is_cell (c.fact (.glo "is_cell") (List.mem_of_getElem? (i := 26) rfl)) (ok_is_cell F_is_cell h_are_integers)
  have h_greater : HasFn P w K mg base 1 "greater" S_greater := hasFn X G F_greater b_greater (c.fact (.glo "greater") (List.mem_of_getElem? (i := 27) rfl)) (ok_greater F_greater )
  have h_lesser : HasFn P w K mg base 1 "lesser" S_lesser := hasFn X G F_lesser b_lesser (c.fact (.glo "lesser") (List.mem_of_getElem? (i := 28) rfl)) (ok_lesser F_lesser )
  have h_tightened : HasFn P w K mg base 2 "tightened" S_tightened := hasFn X G F_tightened b_tightened (c.fact (.glo "tightened") (List.mem_of_getElem? (i := 29) rfl)) (ok_tightened F_tightened h_greater h_lesser)
  have h_sum_of_lesser : HasFn P w K mg base 2 "sum_of_lesser" S_sum_of_lesser := hasFn X G F_sum_of_lesser b_sum_of_lesser (c.fact (.glo "sum_of_lesser") (List.mem_of_getElem? (i := 30) rfl)) (ok_sum_of_lesser F_sum_of_lesser h_greater h_lesser)
  have h_Span_init : HasMk P w K mg base 4 (He.ga K "Span") "Span" (S_init (He.ga K "Span")) := hasMk X G F_Span_init b_Span_init (c.fact (.mkr "Span") (List.mem_of_getElem? (i := 31) rfl)) (c.fact (.glo "Span") (List.mem_of_getElem? (i := 23) rfl)) (ok_Span_init F_Span_init hS h_is_cell h_tightened)
  have h_Span_bool : HasMe P w K mg base 1 (He.ga K "Span") "__bool__" (S_bool (He.ga K "Span")) := hasMe F_Span_bool b_Span_bool (c.fact (.meth "Span" "__bool__") (List.mem_of_getElem? (i := 32) rfl)) (ok_Span_bool F_Span_bool hS)
  have h_Span_places_at : HasMe P w K mg base 2 (He.ga K "Span") "places_at" (S_places_at (He.ga K "Span")) := hasMe F_Span_places_at b_Span_places_at (c.fact (.meth "Span" "places_at") (List.mem_of_getElem? (i := 33) rfl)) (ok_Span_places_at F_Span_places_at hS h_Span_bool h_greater h_lesser)
  have h_Span_contains : HasMe P w K mg base 4 (He.ga K "Span") "__contains__" (S_contains (He.ga K "Span")) := hasMe F_Span_contains b_Span_contains (c.fact (.meth "Span" "__contains__") (List.mem_of_getElem? (i := 34) rfl)) (ok_Span_contains F_Span_contains hS h_Span_bool h_is_cell h_Span_places_at)
  have h_Span_total : HasPr P w K mg base 3 (He.ga K "Span") "total" (S_total (He.ga K "Span")) := hasPr F_Span_total b_Span_total (ex_3 c.more) (ok_Span_total F_Span_total hS h_Span_bool h_sum_of_lesser)
  have h_Span_limited : HasMe P w K mg base 6 (He.ga K "Span") "limited" (S_limited (He.ga K "Span")) := hasMe F_Span_limited b_Span_limited (c.fact (.meth "Span" "limited") (List.mem_of_getElem? (i := 35) rfl)) (ok_Span_limited F_Span_limited hS h_Span_bool h_greater h_lesser h_Span_init)
  have h_Span_stepped : HasMe P w K mg base 6 (He.ga K "Span") "stepped" (S_stepped (He.ga K "Span")) := hasMe F_Span_stepped b_Span_stepped (c.fact (.meth "Span" "stepped") (List.mem_of_getElem? (i := 36) rfl)) (ok_Span_stepped F_Span_stepped hS h_Span_bool h_Span_init)
  have h_Span_sighted : HasMe P w K mg base 7 (He.ga K "Span") "sighted" (S_sighted (He.ga K "Span")) := hasMe F_Span_sighted b_Span_sighted (c.fact (.meth "Span" "sighted") (List.mem_of_getElem? (i := 37) rfl)) (ok_Span_sighted F_Span_sighted hS h_Span_bool h_Span_init h_Span_limited)
  have h_Span_less : HasMe P w K mg base 6 (He.ga K "Span") "less" (S_less (He.ga K "Span")) := hasMe F_Span_less b_Span_less (c.fact (.meth "Span" "less") (List.mem_of_getElem? (i := 38) rfl)) (ok_Span_less F_Span_less B hS h_Span_bool h_greater h_lesser h_Span_init)
  have h_Span_and : HasMe P w K mg base 6 (He.ga K "Span") "__and__" (S_and (He.ga K "Span")) := hasMe F_Span_and b_Span_and (c.fact (.meth "Span" "__and__") (List.mem_of_getElem? (i := 39) rfl)) (ok_Span_and F_Span_and B hS h_Span_bool h_greater h_lesser h_Span_init)
  have h_Span_le : HasMe P w K mg base 2 (He.ga K "Span") "__le__" (S_le (He.ga K "Span")) := hasMe F_Span_le b_Span_le (c.fact (.meth "Span" "__le__") (List.mem_of_getElem? (i := 40) rfl)) (ok_Span_le F_Span_le B hS h_Span_bool)
  have h_Span_eq : HasMe P w K mg base 1 (He.ga K "Span") "__eq__" (S_eq (He.ga K "Span")) := hasMe F_Span_eq b_Span_eq (c.fact (.meth "Span" "__eq__") (List.mem_of_getElem? (i := 41) rfl)) (ok_Span_eq F_Span_eq B hS hI hCls)
  have h_Lfeed : HasFn P w K mg base 1 "_law_feed" S_feed := hasFn X G F_Lfeed b_Lfeed (c.fact (.glo "_law_feed") (List.mem_of_getElem? (i := 42) rfl)) (ok_Lfeed F_Lfeed B)
  have h_Ltake : HasFn P w K mg base 1 "_law_take" S_take := hasFn X G F_Ltake b_Ltake (c.fact (.glo "_law_take") (List.mem_of_getElem? (i := 43) rfl)) (ok_Ltake F_Ltake B)
  have h_Lpick : HasFn P w K mg base 2 "_law_pick" S_pick := hasFn X G F_Lpick b_Lpick (c.fact (.glo "_law_pick") (List.mem_of_getElem? (i := 44) rfl)) (ok_Lpick F_Lpick B h_Ltake)
  have h_Lbounds : HasFn P w K mg base 3 "_law_bounds" S_bounds := hasFn X G F_Lbounds b_Lbounds (c.fact (.glo "_law_bounds") (List.mem_of_getElem? (i := 45) rfl)) (ok_Lbounds F_Lbounds B h_Ltake h_Lpick)
  have h_Lall : HasFn P w K mg base 1 "_law_all" S_all := hasFn X G F_Lall b_Lall (c.fact (.glo "_law_all") (List.mem_of_getElem? (i := 46) rfl)) (ok_Lall F_Lall B)
  have h_Llisted : HasFn P w K mg base 3 "_law_listed" (S_listed (He.ga K "Span")) := hasFn X G F_Llisted b_Llisted (c.fact (.glo "_law_listed") (List.mem_of_getElem? (i := 47) rfl)) (ok_Llisted F_Llisted B hS h_Span_places_at)
  have h_Lsorted : HasFn P w K mg base 1 "_law_sorted" S_sorted := hasFn X G F_Lsorted b_Lsorted (c.fact (.glo "_law_sorted") (List.mem_of_getElem? (i := 48) rfl)) (ok_Lsorted F_Lsorted B)
  have h_Lchanged : HasFn P w K mg base 8 "_law_changed" (S_changed (He.ga K "Span")) := hasFn X G F_Lchanged b_Lchanged (c.fact (.glo "_law_changed") (List.mem_of_getElem? (i := 49) rfl)) (ok_Lchanged F_Lchanged B hS h_Ltake h_Span_stepped h_Span_sighted h_Lsorted)
  exact ok_law F_law B hS h_Span_bool h_Span_init h_Lfeed h_Span_eq hNe h_Span_and hSF h_Span_stepped h_Span_sighted h_Span_less h_Span_total hI hCls h_Lbounds h_Lall h_Llisted h_Lchanged
end Sl57
open PySem PySem.W PySem.Calls PyProof.Rows
theorem PySem.Challenge.cw_slipsights_k28_spans_stepped_and_sighted_holds : PySem.Challenge.rw_slipsights_k28_spans_stepped_and_sighted.Holds := by
  w_on; o_law
  refine HandSHeadRun.head_any (r := OpenLaw.row PySem.Challenge.rw_slipsights_k28_spans_stepped_and_sighted) (q := view (OpenLaw.row PySem.Challenge.rw_slipsights_k28_spans_stepped_and_sighted).prog [22]) (H := Sl57.hk) (ob := Sl57.ob) (M := 20000) (loose := Sl57.loose) (d := HandSHeadRun.topDef (OpenLaw.row PySem.Challenge.rw_slipsights_k28_spans_stepped_and_sighted).prog 22) (kwd := []) Sl57.ob_eq
    (by kernel_rfl) (fun s => by kernel_rfl) Sl57.run (by kernel_rfl) (by kernel_rfl) (by kernel_rfl) (by rfl) (by first | assumption | decide +kernel) (by decide +kernel) ⟨rfl, rfl, rfl, rfl, rfl, by decide +kernel⟩ ?hw ?hc
  case hw => w_witness2
  case hc =>
    refine L2.walk_ofE (l := PySem.Challenge.rw_slipsights_k28_spans_stepped_and_sighted) (n := 63) (k := 9) (x := "_law_script") (CX := L2.CX0) rfl (by decide) (by kernel_rfl) ⟨rfl, by decide, by decide⟩ ?F (fun _ _ _ _ z => z)
    intro w mg fa h Y G hmg0
    obtain ⟨K, KX, c⟩ := Y
    have hmg : mg ("law" : PySem.Str) = some (.ref fa) := by
      have e : (HandSHeadRun.topDef (OpenLaw.row PySem.Challenge.rw_slipsights_k28_spans_stepped_and_sighted).prog 22).name = ("law" : PySem.Str) := by kernel_rfl
      rw [← e]
      exact hmg0
    obtain ⟨fd, hb, hF⟩ := Sl57.facts (P := (PySem.Challenge.rw_slipsights_k28_spans_stepped_and_sighted).prog) (w := w) KX G hmg c
    exact ⟨K, fd, Dt.spOf K Sl57.S_law, KX, hb, fun H a ns hl _ hS => Sl57.law_start hl hS, hF⟩
