import PyProof.Rows.All
import Wide.All
import OpenK.AllK
import Wide.FinOn
import HandS.ForMost
import HandS.IsInst
import HandS.Flow
import HandS.Wide
import HandS.Defaults
import HandS.Property
import HandS.Style
import HandS.Zip
import HandS.SortInts
import HandS.SlotsOwn
import KE.GoesEnum
import PyProof.InstNe
import HandS.Head0
import HandS.Head1
import HandS.Head2
import HandS.HeadEnd
import HandS.HeadHook1
import HandS.HeadHook2
import HandS.Deep
import HandS.RaiseMore
import HandS.TupAny
import HandS.Strs
import HandS.SetFor
import KE.KExcSuper
import HandS.Exc
import HandS.ExcInit
import HandS.ExcSuper
import HandS.ExcField
import HandS.ExcIs
import KE.KExcIs
import HandS.DictComp
import PyProof.DictRoadsH
import PyProof.Rows.TupTab
import HandS.SetBool
import PyProof.SetRoads
import HandS.Iter
import PyProof.Rows.SeqMore
import KE.KCallOwn
import HandS.Text
import HandS.FStr
import PyProof.P3In
import PyProof.ReprRoads
import HandS.Star
import PyProof.ReprLen
import PyProof.StrLawsRepr
import PyProof.EqKinds
import PyProof.Rows.StrInSeq
import HandS.TupLe
import HandS.OwnEq
import HandS.TupMul
import HandS.ClsMeth
import HandS.CallLocal
import HandS.NoneIn
import PySem.Challenge.RW_slipsights_k07_texts_of_sites
set_option Elab.async false
set_option linter.all false
set_option maxRecDepth 100000
set_option maxHeartbeats 2000000
/-! Dt: data that a value stands for, states by data, and what an expression, a test, a statement comes to by data. -/
namespace Dt
open PySem PySem.Spec PyProof.Rows L2

/-- what a value stands for: a tree of data; adr a: the object at a, whatever it is -/
inductive D where
  | non | bl (b : Bool) | int (i : Int) | str (x : Str) | ty (n : String)
  | tup (xs : List D) | lst (xs : List D) | obj (C : Addr) (fs : List (Str × D)) | adr (a : Addr) | dic (ks : List (List Int))

abbrev Ex (H H' : Hp) : Prop := Same H H'

/-- the hash of a tuple of numbers -/
def tkh (ks : List Int) : Int := reduceHash (Builtin.Tuple.tupleHashOf (ks.map hashInt))
/-- a dict at a whose keys are tuples of numbers -/
def tdO (a : Addr) (xs : List (List Int × Addr × Value)) : HO := .ext fun h => (a == sysModules) = false ∧ xs.length ≤ sizeLine ∧ (xs.map (·.1)).Nodup ∧ ∃ o es ep, h.get? a = some o ∧ o.ExactDict ∧ o.data = .dict es ep ∧ es.toList = xs.map fun x => (⟨tkh x.1, .ref x.2.1, x.2.2⟩ : DictEntry)
inductive IsD (K : PySem.W.Frag) (P : Hp) : V → D → Prop
  | non : IsD K P .non .non
  | bl {b} : IsD K P (.bl b) (.bl b)
  | int {i} : IsD K P (.int i) (.int i)
  | str {x} : IsD K P (.str x) (.str x)
  | ty {n} : IsD K P (.ty n) (.ty n)
  | tup {a xs ds} (h : SqT K P a xs) (hl : xs.length = ds.length) (hi : ∀ (i : Nat) x d, xs[i]? = some x → ds[i]? = some d → IsD K P x d) : IsD K P (.ref a) (.tup ds)
  | lst {a xs ds} (h : SqL K P a xs) (hl : xs.length = ds.length) (hi : ∀ (i : Nat) x d, xs[i]? = some x → ds[i]? = some d → IsD K P x d) : IsD K P (.ref a) (.lst ds)
  | obj {a C dx fs ds} (h : P a = some (.ins C dx fs)) (hl : fs.map (·.1) = ds.map (·.1)) (hi : ∀ (i : Nat) x d, fs[i]? = some x → ds[i]? = some d → IsD K P x.2 d.2) : IsD K P (.ref a) (.obj C ds)
  | adr {a} : IsD K P (.ref a) (.adr a)
  | dic {a xs ks} (h : P a = some (tdO a xs)) (hk : xs.map (·.1) = ks) (hi : ∀ x ∈ xs, SqT K P x.2.1 (x.1.map V.int)) : IsD K P (.ref a) (.dic ks)

def IsDs (K : PySem.W.Frag) (P : Hp) (xs : List V) (ds : List D) : Prop := xs.length = ds.length ∧ ∀ (i : Nat) x d, xs[i]? = some x → ds[i]? = some d → IsD K P x d
def IsFs (K : PySem.W.Frag) (P : Hp) (fs : List (Str × V)) (ds : List (Str × D)) : Prop := fs.map (·.1) = ds.map (·.1) ∧ ∀ (i : Nat) x d, fs[i]? = some x → ds[i]? = some d → IsD K P x.2 d.2

section
variable {K : PySem.W.Frag} {P P' : Hp}
theorem Same.tupS {a : Addr} {xs : List V} (e : Ex P P') (h : SqT K P a xs) : SqT K P' a xs := by
  rcases h with (h | ⟨o, h⟩) | h
  · exact .inl (.inl (e _ _ h))
  · exact .inl (.inr ⟨o, e _ _ h⟩)
  · exact .inr h
theorem IsD.mono (e : Ex P P') {v : V} {d : D} (h : IsD K P v d) : IsD K P' v d := by
  induction h with
  | non => exact .non
  | bl => exact .bl
  | int => exact .int
  | str => exact .str
  | ty => exact .ty
  | tup h hl _ ih => exact .tup (Same.tupS e h) hl ih
  | lst h hl _ ih => exact .lst (e.seq h) hl ih
  | obj h hl _ ih => exact .obj (e _ _ h) hl ih
  | adr => exact .adr
  | dic h hk hi => exact .dic (e _ _ h) hk fun x hx => Same.tupS e (hi x hx)
theorem IsDs.mono (e : Ex P P') {xs : List V} {ds : List D} (h : IsDs K P xs ds) : IsDs K P' xs ds := ⟨h.1, fun i x d a b => (h.2 i x d a b).mono e⟩
theorem IsFs.mono (e : Ex P P') {xs : List (Str × V)} {ds : List (Str × D)} (h : IsFs K P xs ds) : IsFs K P' xs ds := ⟨h.1, fun i x d a b => (h.2 i x d a b).mono e⟩
theorem IsDs.nil : IsDs K P [] [] := ⟨rfl, fun i x d h => by simp at h⟩
theorem IsDs.cons {x : V} {d : D} {xs : List V} {ds : List D} (h : IsD K P x d) (t : IsDs K P xs ds) : IsDs K P (x :: xs) (d :: ds) :=
  ⟨by rw [List.length_cons, List.length_cons, t.1], fun i y e a b => by
    cases i with
    | zero =>
      simp only [List.getElem?_cons_zero, Option.some.injEq] at a b
      subst a b
      exact h
    | succ i =>
      simp only [List.getElem?_cons_succ] at a b
      exact t.2 i y e a b⟩
theorem IsDs.append {xs ys : List V} {ds es : List D} (h : IsDs K P xs ds) (t : IsDs K P ys es) : IsDs K P (xs ++ ys) (ds ++ es) := by
  refine ⟨by rw [List.length_append, List.length_append, h.1, t.1], fun i y e a b => ?_⟩
  have hl := h.1
  by_cases hi : i < xs.length
  · rw [List.getElem?_append_left hi] at a
    rw [List.getElem?_append_left (by omega)] at b
    exact h.2 i y e a b
  · rw [List.getElem?_append_right (by omega)] at a
    rw [List.getElem?_append_right (by omega)] at b
    rw [hl] at a
    exact t.2 _ y e a b
theorem IsDs.uncons {xs : List V} {d : D} {ds : List D} (h : IsDs K P xs (d :: ds)) : ∃ x r, xs = x :: r ∧ IsD K P x d ∧ IsDs K P r ds := by
  obtain ⟨hl, hi⟩ := h
  cases xs with
  | nil => simp at hl
  | cons x r => exact ⟨x, r, rfl, hi 0 x d rfl rfl, by simpa using hl, fun i y e a b => hi (i + 1) y e (by simpa using a) (by simpa using b)⟩
theorem IsDs.unnil {xs : List V} (h : IsDs K P xs []) : xs = [] := List.length_eq_zero_iff.mp h.1
theorem IsDs.get {xs : List V} {ds : List D} {i : Nat} {d : D} (h : IsDs K P xs ds) (e : ds[i]? = some d) : ∃ x, xs[i]? = some x ∧ IsD K P x d := by
  obtain ⟨hl, hi⟩ := h
  have hb : i < xs.length := by rw [hl]; exact (List.getElem?_eq_some_iff.mp e).1
  exact ⟨xs[i], List.getElem?_eq_getElem hb, hi i _ d (List.getElem?_eq_getElem hb) e⟩
theorem IsDs.getV {xs : List V} {ds : List D} {i : Nat} {x : V} (h : IsDs K P xs ds) (e : xs[i]? = some x) : ∃ d, ds[i]? = some d ∧ IsD K P x d := by
  obtain ⟨hl, hi⟩ := h
  have hb : i < ds.length := by rw [← hl]; exact (List.getElem?_eq_some_iff.mp e).1
  exact ⟨ds[i], List.getElem?_eq_getElem hb, hi i x _ e (List.getElem?_eq_getElem hb)⟩
theorem IsDs.ints (ns : List Int) : IsDs K P (ns.map V.int) (ns.map D.int) := by
  refine ⟨by rw [List.length_map, List.length_map], fun i x d a b => ?_⟩
  rw [List.getElem?_map] at a b
  cases e : ns[i]? with
  | none => rw [e] at a; cases a
  | some n =>
    rw [e] at a b
    cases a
    cases b
    exact .int
theorem IsFs.nil : IsFs K P [] [] := ⟨rfl, fun i x d h => by simp at h⟩
theorem IsFs.cons {f : Str} {x : V} {d : D} {xs : List (Str × V)} {ds : List (Str × D)} (h : IsD K P x d) (t : IsFs K P xs ds) : IsFs K P ((f, x) :: xs) ((f, d) :: ds) :=
  ⟨by rw [List.map_cons, List.map_cons, t.1], fun i y e a b => by
    cases i with
    | zero =>
      simp only [List.getElem?_cons_zero, Option.some.injEq] at a b
      subst a b
      exact h
    | succ i =>
      simp only [List.getElem?_cons_succ] at a b
      exact t.2 i y e a b⟩
theorem IsFs.uncons {f : Str} {d : D} {xs : List (Str × V)} {ds : List (Str × D)} (h : IsFs K P xs ((f, d) :: ds)) : ∃ x r, xs = (f, x) :: r ∧ IsD K P x d ∧ IsFs K P r ds := by
  obtain ⟨hl, hi⟩ := h
  cases xs with
  | nil => simp at hl
  | cons x r =>
    obtain ⟨g, x⟩ := x
    simp only [List.map_cons, List.cons.injEq] at hl
    obtain ⟨e, hl⟩ := hl
    subst e
    exact ⟨x, r, rfl, hi 0 (g, x) (g, d) rfl rfl, hl, fun i y e a b => hi (i + 1) y e (by simpa using a) (by simpa using b)⟩
theorem IsFs.unnil {xs : List (Str × V)} (h : IsFs K P xs []) : xs = [] := by
  have e := h.1
  cases xs with
  | nil => rfl
  | cons x r => simp at e
theorem IsFs.lookup {f : Str} {d : D} : ∀ {xs : List (Str × V)} {ds : List (Str × D)}, IsFs K P xs ds → ds.lookup f = some d → ∃ v, xs.lookup f = some v ∧ IsD K P v d
  | xs, [], h, e => by simp at e
  | xs, (g, d') :: ds, h, e => by
    obtain ⟨x, r, rfl, hx, hr⟩ := h.uncons
    by_cases hg : f = g
    · subst hg
      simp only [List.lookup_cons_self, Option.some.injEq] at e
      subst e
      exact ⟨x, by simp, hx⟩
    · have hg' : (f == g) = false := by simpa using hg
      rw [List.lookup_cons, hg'] at e
      obtain ⟨v, h1, h2⟩ := IsFs.lookup hr e
      exact ⟨v, by rw [List.lookup_cons, hg']; exact h1, h2⟩
theorem IsFs.lookup_none {f : Str} : ∀ {xs : List (Str × V)} {ds : List (Str × D)}, IsFs K P xs ds → ds.lookup f = none → xs.lookup f = none
  | xs, [], h, e => by rw [h.unnil]; rfl
  | xs, (g, d') :: ds, h, e => by
    obtain ⟨x, r, rfl, hx, hr⟩ := h.uncons
    by_cases hg : f = g
    · subst hg
      simp at e
    · have hg' : (f == g) = false := by simpa using hg
      rw [List.lookup_cons, hg'] at e ⊢
      exact IsFs.lookup_none hr e
/-- an attribute stored, by data -/
def putD (f : Str) (d : D) : List (Str × D) → List (Str × D)
  | [] => [(f, d)]
  | (g, e) :: r => if g = f then (g, d) :: r else (g, e) :: putD f d r
theorem putF_cons (f g : Str) (v x : V) (r : List (Str × V)) : putF f v ((g, x) :: r) = if g = f then (g, v) :: r else (g, x) :: putF f v r := by
  first
    | rfl
    | (unfold putF; split <;> rfl)
    | (by_cases h : g = f
       · subst h; simp [putF]
       · simp [putF, h])
theorem IsFs.put {f : Str} {d : D} {v : V} (hv : IsD K P v d) : ∀ {xs : List (Str × V)} {ds : List (Str × D)}, IsFs K P xs ds → IsFs K P (putF f v xs) (putD f d ds)
  | xs, [], h => by
    rw [h.unnil]
    exact .cons hv .nil
  | xs, (g, d') :: ds, h => by
    obtain ⟨x, r, rfl, hx, hr⟩ := h.uncons
    rw [putF_cons]
    unfold putD
    by_cases hg : g = f
    · rw [if_pos hg, if_pos hg]
      exact .cons hv hr
    · rw [if_neg hg, if_neg hg]
      exact .cons hx (IsFs.put hv hr)
theorem IsFs.length {xs : List (Str × V)} {ds : List (Str × D)} (h : IsFs K P xs ds) : xs.length = ds.length := by
  have e := congrArg List.length h.1
  rw [List.length_map, List.length_map] at e
  exact e
end

/-! ### the state by data -/
abbrev Sl := List (Option D)
/-- an object of one's own, that may change -/
inductive MO where
  | lst (ds : List D)
  | ins (C : Addr) (fs : List (Str × D))
abbrev Mem := List (Addr × MO)
def MHas (K : PySem.W.Frag) (P H : Hp) (a : Addr) : MO → Prop
  | .lst ds => ∃ xs, H a = some (.lst xs) ∧ IsDs K P xs ds
  | .ins C fs => ∃ dx xs, H a = some (.ins C dx xs) ∧ IsFs K P xs fs
structure MOk (K : PySem.W.Frag) (M : Mem) (P H : Hp) : Prop where
  ex : Ex P H
  nd : (M.map (·.1)).Nodup
  at_ : ∀ a o, (a, o) ∈ M → P a = none ∧ MHas K P H a o
structure SOk (K : PySem.W.Frag) (Γ : Sl) (P : Hp) (σ : L2.St) : Prop where
  len : Γ.length = σ.length
  at_ : ∀ (i : Nat) (d : D), Γ[i]? = some (some d) → ∃ v, σ[i]? = some (some v) ∧ IsD K P v d
section
variable {K : PySem.W.Frag} {M M' : Mem} {P P' H H' : Hp} {Γ : Sl} {σ : L2.St}
theorem MHas.mono {a : Addr} {o : MO} (e : Ex P P') (he : H a = H' a) (h : MHas K P H a o) : MHas K P' H' a o := by
  cases o with
  | lst ds =>
    obtain ⟨xs, h1, h2⟩ := h
    exact ⟨xs, by rw [← he]; exact h1, h2.mono e⟩
  | ins C fs =>
    obtain ⟨dx, xs, h1, h2⟩ := h
    exact ⟨dx, xs, by rw [← he]; exact h1, h2.mono e⟩
theorem MHas.some {a : Addr} {o : MO} (h : MHas K P H a o) : ∃ u, H a = some u := by
  cases o with
  | lst ds =>
    obtain ⟨xs, h1, h2⟩ := h
    exact ⟨_, h1⟩
  | ins C fs =>
    obtain ⟨dx, xs, h1, h2⟩ := h
    exact ⟨_, h1⟩
theorem SOk.mono (e : Ex P P') (h : SOk K Γ P σ) : SOk K Γ P' σ := ⟨h.len, fun i d q => let ⟨v, a, b⟩ := h.at_ i d q; ⟨v, a, b.mono e⟩⟩
theorem SOk.set {i : Nat} {v : V} {d : D} (h : SOk K Γ P σ) (hv : IsD K P v d) : SOk K (Γ.set i (some d)) P (σ.set i (some v)) := by
  refine ⟨by rw [List.length_set, List.length_set]; exact h.len, fun j e q => ?_⟩
  by_cases hj : i = j
  · subst hj
    have hb : i < Γ.length := by
      have := (List.getElem?_eq_some_iff.mp q).1
      rwa [List.length_set] at this
    rw [List.getElem?_set_self hb] at q
    cases q
    exact ⟨v, by rw [List.getElem?_set_self (by rw [← h.len]; exact hb)], hv⟩
  · rw [List.getElem?_set_ne hj] at q
    obtain ⟨w, a, b⟩ := h.at_ j e q
    exact ⟨w, by rw [List.getElem?_set_ne hj]; exact a, b⟩
/-- slots forgotten -/
theorem SOk.weak {Γ' : Sl} (h : SOk K Γ P σ) (hl : Γ'.length = Γ.length) (hi : ∀ (i : Nat) (d : D), Γ'[i]? = some (some d) → Γ[i]? = some (some d)) : SOk K Γ' P σ := ⟨hl.trans h.len, fun i d q => h.at_ i d (hi i d q)⟩
/-- a new object, not of one's own to change -/
theorem MOk.push {a : Addr} {o : HO} (h : MOk K M P H) (ha : H a = none) : MOk K M (upd P a o) (upd H a o) ∧ Ex P (upd P a o) := by
  have hp : P a = none := h.ex.free ha
  have e1 : Ex P (upd P a o) := fun b u q => by
    rw [upd_ne (ne_of_none q hp)]
    exact q
  refine ⟨⟨fun b u q => ?_, h.nd, fun b u q => ?_⟩, e1⟩
  · by_cases hb : b = a
    · subst hb
      rw [upd_same] at q ⊢
      exact q
    · rw [upd_ne hb] at q ⊢
      exact h.ex _ _ q
  · obtain ⟨h1, h2⟩ := h.at_ b u q
    have hb : b ≠ a := fun z => by
      obtain ⟨w, hw⟩ := h2.some
      rw [z, ha] at hw
      cases hw
    exact ⟨by rw [upd_ne hb]; exact h1, h2.mono e1 (by rw [upd_ne hb])⟩
/-- a new object of one's own -/
theorem MOk.own {a : Addr} {o : HO} {m : MO} (h : MOk K M P H) (ha : H a = none) (hm : MHas K P (upd H a o) a m) : MOk K ((a, m) :: M) P (upd H a o) := by
  have hp : P a = none := h.ex.free ha
  refine ⟨fun b u q => ?_, ?_, fun b u q => ?_⟩
  · rw [upd_ne (ne_of_none q hp)]
    exact h.ex _ _ q
  · rw [List.map_cons, List.nodup_cons]
    refine ⟨fun hm => ?_, h.nd⟩
    obtain ⟨e, he, e2⟩ := List.mem_map.mp hm
    obtain ⟨w, hw⟩ := (h.at_ e.1 e.2 he).2.some
    rw [e2, ha] at hw
    cases hw
  · rcases List.mem_cons.mp q with e | q
    · cases e
      exact ⟨hp, hm⟩
    · obtain ⟨h1, h2⟩ := h.at_ b u q
      have hb : b ≠ a := fun z => by
        obtain ⟨w, hw⟩ := h2.some
        rw [z, ha] at hw
        cases hw
      exact ⟨h1, h2.mono (Same.refl P) (by rw [upd_ne hb])⟩
theorem MOk.get {k : Nat} {a : Addr} {m : MO} (h : MOk K M P H) (e : M[k]? = some (a, m)) : P a = none ∧ MHas K P H a m := h.at_ a m (List.mem_of_getElem? e)
/-- an object of one's own changes -/
theorem MOk.put {k : Nat} {a : Addr} {m m' : MO} {o : HO} (h : MOk K M P H) (e : M[k]? = some (a, m)) (hm : MHas K P (upd H a o) a m') : MOk K (M.set k (a, m')) P (upd H a o) := by
  obtain ⟨hp, _⟩ := h.get e
  have hk : k < M.length := (List.getElem?_eq_some_iff.mp e).1
  refine ⟨fun b u q => ?_, ?_, fun b u q => ?_⟩
  · rw [upd_ne (ne_of_none q hp)]
    exact h.ex _ _ q
  · have e2 : (M.set k (a, m')).map (·.1) = M.map (·.1) := by
      rw [List.map_set]
      refine List.ext_getElem? fun i => ?_
      by_cases hi : k = i
      · subst hi
        rw [List.getElem?_set_self (by rw [List.length_map]; exact hk), List.getElem?_map, e]
        rfl
      · rw [List.getElem?_set_ne hi]
    rw [e2]
    exact h.nd
  · obtain ⟨j, hj⟩ := List.getElem?_of_mem q
    by_cases hi : k = j
    · subst hi
      rw [List.getElem?_set_self hk] at hj
      cases hj
      exact ⟨hp, hm⟩
    · rw [List.getElem?_set_ne hi] at hj
      obtain ⟨h1, h2⟩ := h.get hj
      have hb : b ≠ a := fun z => by
        subst z
        have a1 : (M.map (·.1))[k]? = some b := by rw [List.getElem?_map, e]; rfl
        have a2 : (M.map (·.1))[j]? = some b := by rw [List.getElem?_map, hj]; rfl
        obtain ⟨b1, c1⟩ := List.getElem?_eq_some_iff.mp a1
        obtain ⟨b2, c2⟩ := List.getElem?_eq_some_iff.mp a2
        exact hi ((List.getElem_inj h.nd).mp (c1.trans c2.symm))
      exact ⟨h1, h2.mono (Same.refl P) (by rw [upd_ne hb])⟩
/-- some of one's own objects are given up -/
theorem MOk.sub (h : MOk K M P H) (hs : M'.Sublist M) : MOk K M' P H := ⟨h.ex, h.nd.sublist (hs.map _), fun a o q => h.at_ a o (hs.subset q)⟩
theorem MOk.tail {x : Addr × MO} (h : MOk K (x :: M) P H) : MOk K M P H := h.sub (List.sublist_cons_self _ _)
/-- an object of one's own changes no more -/
theorem MOk.freeze {a : Addr} {m : MO} {o : HO} (h : MOk K ((a, m) :: M) P H) (ho : H a = some o) : MOk K M (upd P a o) H ∧ Ex P (upd P a o) := by
  obtain ⟨hp, _⟩ := h.at_ a m List.mem_cons_self
  have e1 : Ex P (upd P a o) := fun b u q => by
    rw [upd_ne (ne_of_none q hp)]
    exact q
  refine ⟨⟨fun b u q => ?_, h.tail.nd, fun b u q => ?_⟩, e1⟩
  · by_cases hb : b = a
    · subst hb
      rw [upd_same] at q
      rw [ho]
      exact q
    · rw [upd_ne hb] at q
      exact h.ex _ _ q
  · obtain ⟨h1, h2⟩ := h.tail.at_ b u q
    have hb : b ≠ a := fun z => by
      subst z
      have hn := h.nd
      rw [List.map_cons, List.nodup_cons] at hn
      exact hn.1 (List.mem_map.mpr ⟨(b, u), q, rfl⟩)
    exact ⟨by rw [upd_ne hb]; exact h1, h2.mono e1 rfl⟩
end
end Dt

set_option Elab.async false
set_option linter.all false
set_option maxRecDepth 100000
set_option maxHeartbeats 2000000
/-! Dt, part 2: what an expression, a test, a block comes to, by data. -/
namespace Dt
open PySem PySem.Spec PyProof.Rows L2
/-! ### readings by meaning -/
def wpT (X : Cx) (e : Expr) : TE := fun σ H Q => ∀ pins s, Inv X pins σ H s → wpAny (model X.prog X.w) X.A (eval e X.env) (EP X pins σ Q) X.xe s
def wpA (X : Cx) (es : List Expr) : TA := fun σ H Q => ∀ pos pins s, Inv X pins σ H s → wpAny (model X.prog X.w) X.A (spliced (backTo pos (starEach es X.env))) (AP X pins σ Q) X.xe s
def wpB (X : Cx) (e : Expr) : TT := fun σ H Q => ∀ pins s, Inv X pins σ H s → wpAny (model X.prog X.w) X.A (isTrue e X.env (eval e X.env)) (TP X pins σ Q) X.xe s
def wpW (X : Cx) (e : Expr) : TT := fun σ H Q => ∀ whole pins s, Inv X pins σ H s → wpAny (model X.prog X.w) X.A (isTrue e X.env whole) (TP X pins σ Q) X.xe s
def wpS (X : Cx) (st : Stmt) : TS := fun D σ H => ∀ pins s, Inv X pins σ H s → wpAny (model X.prog X.w) X.A (exec st X.env) (SP X pins D) X.xe s
def wpSs (X : Cx) (sts : List Stmt) : TS := fun D σ H => ∀ pins s, Inv X pins σ H s → wpAny (model X.prog X.w) X.A (execs sts X.env) (SP X pins D) X.xe s
def opT (X : Cx) (f : Value → Value → Sem Value) : R2 := fun x y H Q => ∀ pins σ s v u, Inv X pins σ H s → RelV x v → RelV y u → wpAny (model X.prog X.w) X.A (f v u) (EP X pins σ Q) X.xe s
def unT (X : Cx) (f : Value → Sem Value) : V → Hp → VK → Prop := fun x H Q => ∀ pins σ s v, Inv X pins σ H s → RelV x v → wpAny (model X.prog X.w) X.A (f v) (EP X pins σ Q) X.xe s
def caT (X : Cx) (f : Value) : List V → Hp → VK → Prop := fun xs H Q => ∀ pins σ s us, Inv X pins σ H s → Vals xs us → wpAny (model X.prog X.w) X.A (call f us) (EP X pins σ Q) X.xe s
def trT (X : Cx) : V → Hp → (Bool → Hp → Prop) → Prop := fun x H Q => ∀ pins σ s v, Inv X pins σ H s → RelV x v → wpAny (model X.prog X.w) X.A (truthy v) (TP X pins σ Q) X.xe s
section
variable {X : Cx} {e : Expr} {es : List Expr} {st : Stmt} {sts : List Stmt} {σ : L2.St} {H : Hp}
theorem pe_wp : PE X e (wpT X e) := ⟨fun pins s _ _ _ I h => h pins s I⟩
theorem pa_wp : PA X es (wpA X es) := ⟨fun pos pins s _ _ _ I h => h pos pins s I⟩
theorem pt_wp : PT X e (wpB X e) := ⟨fun pins s _ _ _ I h => h pins s I⟩
theorem pw_wp : PW X e (wpW X e) := ⟨fun wh pins s _ _ _ I h => h wh pins s I⟩
theorem ps_wp : PS X st (wpS X st) := ⟨fun pins s _ _ _ I h => h pins s I⟩
theorem pss_wp : PSs X sts (wpSs X sts) := ⟨fun pins s _ _ _ I h => h pins s I⟩
theorem op_wp {f : Value → Value → Sem Value} : OpR X f (opT X f) := fun pins s σ H x y v u Q I rx ry h => h pins σ s v u I rx ry
theorem un_wp {f : Value → Sem Value} : UnR X f (unT X f) := fun pins s σ H x v Q I rx h => h pins σ s v I rx
theorem ca_wp {f : Value} : CallR X f (caT X f) := fun pins s σ H xs us Q I rx h => h pins σ s us I rx
theorem tr_wp : TruR X (trT X) := fun pins s σ H x v Q I rx h => h pins σ s v I rx
theorem wpT_of {t : TE} (h : PE X e t) {Q : VK} (q : t σ H Q) : wpT X e σ H Q := fun pins s I => h.run pins s σ H Q I q
theorem wpA_of {t : TA} (h : PA X es t) {Q : List V → Hp → Prop} (q : t σ H Q) : wpA X es σ H Q := fun pos pins s I => h.run pos pins s σ H Q I q
theorem wpB_of {t : TT} (h : PT X e t) {Q : Bool → Hp → Prop} (q : t σ H Q) : wpB X e σ H Q := fun pins s I => h.run pins s σ H Q I q
theorem wpW_of {t : TT} (h : PW X e t) {Q : Bool → Hp → Prop} (q : t σ H Q) : wpW X e σ H Q := fun wh pins s I => h.run wh pins s σ H Q I q
theorem wpS_of {t : TS} (h : PS X st t) {D : Ends} (q : t D σ H) : wpS X st D σ H := fun pins s I => h.run pins s σ H D I q
theorem wpSs_of {t : TS} (h : PSs X sts t) {D : Ends} (q : t D σ H) : wpSs X sts D σ H := fun pins s I => h.run pins s σ H D I q
theorem opT_of {f : Value → Value → Sem Value} {r : R2} (h : OpR X f r) {x y : V} {Q : VK} (q : r x y H Q) : opT X f x y H Q := fun pins σ s v u I rx ry => h pins s σ H x y v u Q I rx ry q
theorem unT_of {f : Value → Sem Value} {r : V → Hp → VK → Prop} (h : UnR X f r) {x : V} {Q : VK} (q : r x H Q) : unT X f x H Q := fun pins σ s v I rx => h pins s σ H x v Q I rx q
theorem caT_of {f : Value} {r : List V → Hp → VK → Prop} (h : CallR X f r) {xs : List V} {Q : VK} (q : r xs H Q) : caT X f xs H Q := fun pins σ s us I rx => h pins s σ H xs us Q I rx q
theorem trT_of {r : V → Hp → (Bool → Hp → Prop) → Prop} (h : TruR X r) {x : V} {Q : Bool → Hp → Prop} (q : r x H Q) : trT X x H Q := fun pins σ s v I rx => h pins s σ H x v Q I rx q
theorem wpT.mono {Q Q' : VK} (h : wpT X e σ H Q) (q : ∀ v H', Q v H' → Q' v H') : wpT X e σ H Q' := fun pins s I => thn (h pins s I) fun _ _ ⟨v, H', a, b, c⟩ => ⟨v, H', a, b, q _ _ c⟩
theorem wpA.mono {Q Q' : List V → Hp → Prop} (h : wpA X es σ H Q) (q : ∀ v H', Q v H' → Q' v H') : wpA X es σ H Q' := fun pos pins s I => thn (h pos pins s I) fun _ _ ⟨v, H', a, b, c⟩ => ⟨v, H', a, b, q _ _ c⟩
theorem wpB.mono {Q Q' : Bool → Hp → Prop} (h : wpB X e σ H Q) (q : ∀ v H', Q v H' → Q' v H') : wpB X e σ H Q' := fun pins s I => thn (h pins s I) fun _ _ ⟨H', a, c⟩ => ⟨H', a, q _ _ c⟩
theorem wpW.mono {Q Q' : Bool → Hp → Prop} (h : wpW X e σ H Q) (q : ∀ v H', Q v H' → Q' v H') : wpW X e σ H Q' := fun wh pins s I => thn (h wh pins s I) fun _ _ ⟨H', a, c⟩ => ⟨H', a, q _ _ c⟩
theorem opT.mono {f : Value → Value → Sem Value} {x y : V} {Q Q' : VK} (h : opT X f x y H Q) (q : ∀ v H', Q v H' → Q' v H') : opT X f x y H Q' := fun pins σ s v u I a b => thn (h pins σ s v u I a b) fun _ _ ⟨v, H', a, b, c⟩ => ⟨v, H', a, b, q _ _ c⟩
theorem unT.mono {f : Value → Sem Value} {x : V} {Q Q' : VK} (h : unT X f x H Q) (q : ∀ v H', Q v H' → Q' v H') : unT X f x H Q' := fun pins σ s v I a => thn (h pins σ s v I a) fun _ _ ⟨v, H', a, b, c⟩ => ⟨v, H', a, b, q _ _ c⟩
theorem caT.mono {f : Value} {xs : List V} {Q Q' : VK} (h : caT X f xs H Q) (q : ∀ v H', Q v H' → Q' v H') : caT X f xs H Q' := fun pins σ s us I a => thn (h pins σ s us I a) fun _ _ ⟨v, H', a, b, c⟩ => ⟨v, H', a, b, q _ _ c⟩
theorem trT.mono {x : V} {Q Q' : Bool → Hp → Prop} (h : trT X x H Q) (q : ∀ v H', Q v H' → Q' v H') : trT X x H Q' := fun pins σ s v I a => thn (h pins σ s v I a) fun _ _ ⟨H', a, c⟩ => ⟨H', a, q _ _ c⟩
/-- what is wanted behind a statement, weakened -/
structure EndsLe (D D' : Ends) : Prop where
  nx : ∀ σ H, D.nx σ H → D'.nx σ H
  rt : ∀ v H, D.rt v H → D'.rt v H
  bk : ∀ σ H, D.bk σ H → D'.bk σ H
  ct : ∀ σ H, D.ct σ H → D'.ct σ H
theorem SP.le {X : Cx} {pins : List (Addr × Obj)} {D D' : Ends} (l : EndsLe D D') {f : Flow} {s : Shared} (h : SP X pins D f s) : SP X pins D' f s := by
  cases f with
  | next => obtain ⟨σ, H, I, q⟩ := h; exact ⟨σ, H, I, l.nx _ _ q⟩
  | brk => obtain ⟨σ, H, I, q⟩ := h; exact ⟨σ, H, I, l.bk _ _ q⟩
  | cont => obtain ⟨σ, H, I, q⟩ := h; exact ⟨σ, H, I, l.ct _ _ q⟩
  | ret u => obtain ⟨v, σ, H, I, r, q⟩ := h; exact ⟨v, σ, H, I, r, l.rt _ _ q⟩
theorem wpS.mono {D D' : Ends} (h : wpS X st D σ H) (l : EndsLe D D') : wpS X st D' σ H := fun pins s I => thn (h pins s I) fun _ _ q => SP.le l q
theorem wpSs.mono {D D' : Ends} (h : wpSs X sts D σ H) (l : EndsLe D D') : wpSs X sts D' σ H := fun pins s I => thn (h pins s I) fun _ _ q => SP.le l q
end

/-! ### ends by data -/
abbrev VP := D → Mem → Prop
def Fin (K : PySem.W.Frag) (P : Hp) (Φ : VP) : VK := fun v H2 => ∃ d M' P2, Φ d M' ∧ Ex P P2 ∧ MOk K M' P2 H2 ∧ IsD K P2 v d
def FinA (K : PySem.W.Frag) (P : Hp) (Φ : List D → Mem → Prop) : List V → Hp → Prop := fun vs H2 => ∃ ds M' P2, Φ ds M' ∧ Ex P P2 ∧ MOk K M' P2 H2 ∧ IsDs K P2 vs ds
def FinB (K : PySem.W.Frag) (P : Hp) (Φ : Bool → Mem → Prop) : Bool → Hp → Prop := fun b H2 => ∃ M' P2, Φ b M' ∧ Ex P P2 ∧ MOk K M' P2 H2
def FinS (K : PySem.W.Frag) (P : Hp) (Φ : Sl → Mem → Prop) : L2.St → Hp → Prop := fun σ H2 => ∃ Γ' M' P2, Φ Γ' M' ∧ Ex P P2 ∧ SOk K Γ' P2 σ ∧ MOk K M' P2 H2
structure Po where
  nx : Sl → Mem → Prop
  rt : VP
  bk : Sl → Mem → Prop := fun _ _ => False
  ct : Sl → Mem → Prop := fun _ _ => False
def Po.ends (K : PySem.W.Frag) (P : Hp) (Ψ : Po) : Ends := { nx := FinS K P Ψ.nx, rt := Fin K P Ψ.rt, bk := FinS K P Ψ.bk, ct := FinS K P Ψ.ct }
section
variable {K : PySem.W.Frag} {P P' : Hp}
theorem Fin.up {Φ : VP} {v : V} {H : Hp} (e : Ex P P') (h : Fin K P' Φ v H) : Fin K P Φ v H := let ⟨d, M, P2, a, b, c, f⟩ := h; ⟨d, M, P2, a, e.trans b, c, f⟩
theorem FinA.up {Φ : List D → Mem → Prop} {v : List V} {H : Hp} (e : Ex P P') (h : FinA K P' Φ v H) : FinA K P Φ v H := let ⟨d, M, P2, a, b, c, f⟩ := h; ⟨d, M, P2, a, e.trans b, c, f⟩
theorem FinB.up {Φ : Bool → Mem → Prop} {v : Bool} {H : Hp} (e : Ex P P') (h : FinB K P' Φ v H) : FinB K P Φ v H := let ⟨M, P2, a, b, c⟩ := h; ⟨M, P2, a, e.trans b, c⟩
theorem FinS.up {Φ : Sl → Mem → Prop} {σ : L2.St} {H : Hp} (e : Ex P P') (h : FinS K P' Φ σ H) : FinS K P Φ σ H := let ⟨Γ, M, P2, a, b, c, f⟩ := h; ⟨Γ, M, P2, a, e.trans b, c, f⟩
theorem Fin.imp {Φ Φ' : VP} {v : V} {H : Hp} (e : ∀ d M, Φ d M → Φ' d M) (h : Fin K P Φ v H) : Fin K P Φ' v H := let ⟨d, M, P2, a, b⟩ := h; ⟨d, M, P2, e _ _ a, b⟩
theorem FinS.imp {Φ Φ' : Sl → Mem → Prop} {σ : L2.St} {H : Hp} (e : ∀ d M, Φ d M → Φ' d M) (h : FinS K P Φ σ H) : FinS K P Φ' σ H := let ⟨d, M, P2, a, b⟩ := h; ⟨d, M, P2, e _ _ a, b⟩
theorem Po.up (Ψ : Po) (e : Ex P P') : EndsLe (Ψ.ends K P') (Ψ.ends K P) := ⟨fun _ _ h => h.up e, fun _ _ h => h.up e, fun _ _ h => h.up e, fun _ _ h => h.up e⟩
theorem Fin.one {Φ : VP} {v : V} {H : Hp} {d : D} {M : Mem} (h : Φ d M) (m : MOk K M P H) (i : IsD K P v d) : Fin K P Φ v H := ⟨d, M, P, h, Same.refl P, m, i⟩
end

/-! ### the judgements -/
def WE (X : Cx) (Γ : Sl) (M : Mem) (e : Expr) (Φ : VP) : Prop := ∀ P σ H, SOk X.K Γ P σ → MOk X.K M P H → wpT X e σ H (Fin X.K P Φ)
def WA (X : Cx) (Γ : Sl) (M : Mem) (es : List Expr) (Φ : List D → Mem → Prop) : Prop := ∀ P σ H, SOk X.K Γ P σ → MOk X.K M P H → wpA X es σ H (FinA X.K P Φ)
def WT (X : Cx) (Γ : Sl) (M : Mem) (e : Expr) (Φ : Bool → Mem → Prop) : Prop := ∀ P σ H, SOk X.K Γ P σ → MOk X.K M P H → wpB X e σ H (FinB X.K P Φ)
def WW (X : Cx) (Γ : Sl) (M : Mem) (e : Expr) (Φ : Bool → Mem → Prop) : Prop := ∀ P σ H, SOk X.K Γ P σ → MOk X.K M P H → wpW X e σ H (FinB X.K P Φ)
def W1 (X : Cx) (Γ : Sl) (M : Mem) (st : Stmt) (Ψ : Po) : Prop := ∀ P σ H, SOk X.K Γ P σ → MOk X.K M P H → wpS X st (Ψ.ends X.K P) σ H
def WS (X : Cx) (Γ : Sl) (M : Mem) (sts : List Stmt) (Ψ : Po) : Prop := ∀ P σ H, SOk X.K Γ P σ → MOk X.K M P H → wpSs X sts (Ψ.ends X.K P) σ H
/-- operations on data -/
def OpD (X : Cx) (f : Value → Value → Sem Value) (x y : D) (M : Mem) (Φ : VP) : Prop := ∀ P H a b, MOk X.K M P H → IsD X.K P a x → IsD X.K P b y → opT X f a b H (Fin X.K P Φ)
def UnD (X : Cx) (f : Value → Sem Value) (x : D) (M : Mem) (Φ : VP) : Prop := ∀ P H a, MOk X.K M P H → IsD X.K P a x → unT X f a H (Fin X.K P Φ)
def CaD (X : Cx) (f : Value) (xs : List D) (M : Mem) (Φ : VP) : Prop := ∀ P H as, MOk X.K M P H → IsDs X.K P as xs → caT X f as H (Fin X.K P Φ)
def TrD (X : Cx) (x : D) (M : Mem) (Φ : Bool → Mem → Prop) : Prop := ∀ P H a, MOk X.K M P H → IsD X.K P a x → trT X a H (FinB X.K P Φ)
section
variable {X : Cx} {Γ : Sl} {M : Mem} {Φ Φ' : VP} {Ψ : Po} {e a b c o : Expr} {es rest : List Expr} {pos p pos' : Pos} {st : Stmt} {sts : List Stmt} {B B' : Bool → Mem → Prop}
theorem WE.mono (h : WE X Γ M e Φ) (q : ∀ d M', Φ d M' → Φ' d M') : WE X Γ M e Φ' := fun P σ H s m => (h P σ H s m).mono fun _ _ z => z.imp q
theorem WT.mono (h : WT X Γ M e B) (q : ∀ d M', B d M' → B' d M') : WT X Γ M e B' := fun P σ H s m => (h P σ H s m).mono fun _ _ ⟨M', P2, a, b⟩ => ⟨M', P2, q _ _ a, b⟩
/-! ### names, constants -/
theorem we_var {i : Nat} {x : Str} {d : D} (hN : X.N[i]? = some x) (hv : Vis X.env.scope x) (hd : (x == ("__debug__" : Str)) = false) (hcd : (x == ("__classdict__" : Str)) = false) (hΓ : Γ[i]? = some (some d)) (h : Φ d M) : WE X Γ M (.Name x pos) Φ :=
  fun P σ H s m => by
    obtain ⟨v, h1, h2⟩ := s.at_ i d hΓ
    exact wpT_of (pe_var hN hv hd hcd) ⟨v, h1, .one h m h2⟩
theorem we_int {i j} (h : Φ (.int i) M) : WE X Γ M (.Constant (.int i) j pos) Φ := fun P σ H s m => wpT_of pe_int (.one h m .int)
theorem we_bl {b j} (h : Φ (.bl b) M) : WE X Γ M (.Constant (.bool b) j pos) Φ := fun P σ H s m => wpT_of pe_bl (.one h m .bl)
theorem we_non {j} (h : Φ .non M) : WE X Γ M (.Constant .none j pos) Φ := fun P σ H s m => wpT_of pe_non (.one h m .non)
theorem we_str {x j} (h : Φ (.str x) M) : WE X Γ M (.Constant (.str x) j pos) Φ := fun P σ H s m => wpT_of pe_str (.one h m .str)
theorem we_glob {x : Str} {a : Addr} (hg : Gl X x) (hm : X.mg x = some (.ref a)) (hd : (x == ("__debug__" : Str)) = false) (h : Φ (.adr a) M) : WE X Γ M (.Name x pos) Φ := fun P σ H s m => wpT_of (pe_glob (v := .ref a) hg hm rfl hd) (.one h m .adr)
theorem we_bty {x : Str} {n : String} (hg : Gl X x) (hm : X.mg x = none) (hv : bootBuiltins x = some (.type n)) (hn : x ≠ "__name__") (hd : (x == ("__debug__" : Str)) = false) (h : Φ (.ty n) M) : WE X Γ M (.Name x pos) Φ := fun P σ H s m => wpT_of (pe_bltn (v := .ty n) hg hm hv rfl hn hd) (.one h m .ty)
/-! ### argument lists -/
theorem wa_nil {Φ : List D → Mem → Prop} (h : Φ [] M) : WA X Γ M [] Φ := fun P σ H s m => wpA_of pa_nil ⟨[], M, P, h, Same.refl P, m, .nil⟩
theorem wa_cons {Φ : List D → Mem → Prop} (h : WE X Γ M e fun d M1 => WA X Γ M1 es fun ds M2 => Φ (d :: ds) M2) (hs : starEach (e :: es) X.env = (false, eval e X.env) :: starEach es X.env := by rfl) : WA X Γ M (e :: es) Φ := fun P σ H s m =>
  wpA_of (pa_cons pe_wp pa_wp hs) ((h P σ H s m).mono fun v H1 ⟨d, M1, P1, q, e1, m1, i1⟩ => (q P1 σ H1 (s.mono e1) m1).mono fun vs H2 ⟨ds, M2, P2, q2, e2, m2, i2⟩ => ⟨d :: ds, M2, P2, q2, e1.trans e2, m2, .cons (i1.mono e2) i2⟩)
/-! ### operators -/
theorem we_bin {op : Operator} (h : WE X Γ M a fun x M1 => WE X Γ M1 b fun y M2 => OpD X (binaryOp op) x y M2 Φ) : WE X Γ M (.BinOp a op b pos) Φ := fun P σ H s m =>
  wpT_of (pe_op op_wp pe_wp pe_wp) ((h P σ H s m).mono fun v H1 ⟨d, M1, P1, q, e1, m1, i1⟩ => (q P1 σ H1 (s.mono e1) m1).mono fun u H2 ⟨d2, M2, P2, q2, e2, m2, i2⟩ => (q2 P2 H2 v u m2 (i1.mono e2) i2).mono fun _ _ z => z.up (e1.trans e2))
theorem we_cmp {op : CmpOp} (h : WE X Γ M a fun x M1 => WE X Γ M1 b fun y M2 => OpD X (compareOp op) x y M2 Φ) (hm : behindInMarks op b = false) : WE X Γ M (.Compare a [op] [b] pos) Φ := fun P σ H s m =>
  wpT_of (pe_cmpR op_wp pe_wp pe_wp hm) ((h P σ H s m).mono fun v H1 ⟨d, M1, P1, q, e1, m1, i1⟩ => (q P1 σ H1 (s.mono e1) m1).mono fun u H2 ⟨d2, M2, P2, q2, e2, m2, i2⟩ => (q2 P2 H2 v u m2 (i1.mono e2) i2).mono fun _ _ z => z.up (e1.trans e2))
theorem we_un {op : UnaryOp} (h : WE X Γ M a fun x M1 => UnD X (unaryOp op) x M1 Φ) : WE X Γ M (.UnaryOp op a pos) Φ := fun P σ H s m =>
  wpT_of (pe_un un_wp pe_wp) ((h P σ H s m).mono fun v H1 ⟨d, M1, P1, q, e1, m1, i1⟩ => (q P1 H1 v m1 i1).mono fun _ _ z => z.up e1)
/-! ### tests -/
theorem wt_val (h : WE X Γ M e fun d M1 => TrD X d M1 B) (he : ∀ whole, isTrue e X.env whole = (do let v ← whole; standAt e.pos; holding [v] (truthy v))) : WT X Γ M e B := fun P σ H s m => fun pins sh I =>
  isTrue_plain (thn (h P σ H s m pins sh I) fun v s1 ⟨x, H1, I1, r1, d, M1, P1, q, e1, m1, i1⟩ => thn (q P1 H1 x m1 i1 pins σ s1 v I1 r1) fun b s2 ⟨H2, I2, z⟩ => ⟨H2, I2, z.up e1⟩) (he _)
theorem wt_cmp {op : CmpOp} (h : WE X Γ M a fun x M1 => WE X Γ M1 b fun y M2 => OpD X (compareOp op) x y M2 fun d M3 => ∃ k, d = .bl k ∧ B k M3) (hm : behindInMarks op b = false) : WT X Γ M (.Compare a [op] [b] pos) B := fun P σ H s m =>
  wpB_of (pt_cmpR op_wp pe_wp pe_wp hm) ((h P σ H s m).mono fun v H1 ⟨d, M1, P1, q, e1, m1, i1⟩ => (q P1 σ H1 (s.mono e1) m1).mono fun u H2 ⟨d2, M2, P2, q2, e2, m2, i2⟩ => (q2 P2 H2 v u m2 (i1.mono e2) i2).mono fun w H3 ⟨d3, M3, P3, ⟨k, ek, q3⟩, e3, m3, i3⟩ => by
    subst ek
    cases i3
    exact ⟨k, rfl, M3, P3, q3, (e1.trans e2).trans e3, m3⟩)
theorem wt_not (h : WT X Γ M a fun k M1 => B (!k) M1) : WT X Γ M (.UnaryOp .Not a pos) B := fun P σ H s m =>
  wpB_of (pt_not pt_wp) ((h P σ H s m).mono fun k H1 z => z)
theorem wt_bool {op} {l : List Expr} (h : WW X Γ M (.BoolOp op l pos) B) : WT X Γ M (.BoolOp op l pos) B := fun P σ H s m => wpB_of pw_wp.pt (h P σ H s m)
theorem ww_and1 (h : WT X Γ M a B) : WW X Γ M (.BoolOp .And [a] pos) B := fun P σ H s m => wpW_of (pw_and1 pt_wp) (h P σ H s m)
theorem ww_or1 (h : WT X Γ M a B) : WW X Γ M (.BoolOp .Or [a] pos) B := fun P σ H s m => wpW_of (pw_or1 pt_wp) (h P σ H s m)
theorem ww_and (h : WT X Γ M a fun k M1 => (k = true → WW X Γ M1 (.BoolOp .And (b :: rest) pos) B) ∧ (k = false → B false M1)) : WW X Γ M (.BoolOp .And (a :: b :: rest) pos) B := fun P σ H s m =>
  wpW_of (pw_and pt_wp pw_wp) ((h P σ H s m).mono fun k H1 ⟨M1, P1, q, e1, m1⟩ => by
    cases k with
    | true => exact iteT ((q.1 rfl P1 σ H1 (s.mono e1) m1).mono fun _ _ z => z.up e1)
    | false => exact iteF ⟨M1, P1, q.2 rfl, e1, m1⟩)
theorem ww_or (h : WT X Γ M a fun k M1 => (k = true → B true M1) ∧ (k = false → WW X Γ M1 (.BoolOp .Or (b :: rest) pos) B)) : WW X Γ M (.BoolOp .Or (a :: b :: rest) pos) B := fun P σ H s m =>
  wpW_of (pw_or pt_wp pw_wp) ((h P σ H s m).mono fun k H1 ⟨M1, P1, q, e1, m1⟩ => by
    cases k with
    | true => exact iteT ⟨M1, P1, q.1 rfl, e1, m1⟩
    | false => exact iteF ((q.2 rfl P1 σ H1 (s.mono e1) m1).mono fun _ _ z => z.up e1))
/-- a < b < c -/
theorem we_chain {op op' : CmpOp} (h : WE X Γ M a fun x M1 => WE X Γ M1 b fun y M2 => OpD X (compareOp op) x y M2 fun d M3 => ∃ k, d = .bl k ∧ (k = true → WE X Γ M3 c fun z M4 => OpD X (compareOp op') y z M4 Φ) ∧ (k = false → Φ (.bl false) M3))
    (hq : PE X (.Compare a [op, op'] [b, c] pos) (tChain (opT X (compareOp op)) (opT X (compareOp op')) (wpT X a) (wpT X b) (wpT X c)) := by exact pe_chain op_wp op_wp pe_wp pe_wp pe_wp) : WE X Γ M (.Compare a [op, op'] [b, c] pos) Φ := fun P σ H s m =>
  wpT_of hq ((h P σ H s m).mono fun v H1 ⟨d, M1, P1, q, e1, m1, i1⟩ => (q P1 σ H1 (s.mono e1) m1).mono fun u H2 ⟨d2, M2, P2, q2, e2, m2, i2⟩ => (q2 P2 H2 v u m2 (i1.mono e2) i2).mono fun w H3 ⟨d3, M3, P3, ⟨k, ek, qt, qf⟩, e3, m3, i3⟩ => by
    subst ek
    cases i3
    refine ⟨k, rfl, ?_⟩
    cases k with
    | true => exact iteT ((qt rfl P3 σ H3 (s.mono ((e1.trans e2).trans e3)) m3).mono fun w' H4 ⟨d4, M4, P4, q4, e4, m4, i4⟩ => (q4 P4 H4 u w' m4 ((i2.mono e3).mono e4) i4).mono fun _ _ z => z.up (((e1.trans e2).trans e3).trans e4))
    | false => exact iteF ⟨_, M3, P3, qf rfl, (e1.trans e2).trans e3, m3, .bl⟩)
theorem wt_of_we (h : WE X Γ M e fun d M1 => ∃ k, d = .bl k ∧ B k M1) (he : ∀ whole, isTrue e X.env whole = (do let v ← whole; standAt e.pos; holding [v] (truthy v))) : WT X Γ M e B := fun P σ H s m =>
  wpB_of (pt_val pe_wp he) ((h P σ H s m).mono fun v H1 ⟨d, M1, P1, ⟨k, ek, q⟩, e1, m1, i1⟩ => by
    subst ek
    cases i1
    exact ⟨k, rfl, M1, P1, q, e1, m1⟩)
/-- a if t else b -/
theorem we_if (h : WT X Γ M c fun k M1 => (k = true → WE X Γ M1 a Φ) ∧ (k = false → WE X Γ M1 b Φ)) : WE X Γ M (.IfExp c a b pos) Φ := fun P σ H s m =>
  wpT_of (pe_ifExp pt_wp pe_wp pe_wp) ((h P σ H s m).mono fun k H1 ⟨M1, P1, q, e1, m1⟩ => by
    cases k with
    | true => exact iteT ((q.1 rfl P1 σ H1 (s.mono e1) m1).mono fun _ _ z => z.up e1)
    | false => exact iteF ((q.2 rfl P1 σ H1 (s.mono e1) m1).mono fun _ _ z => z.up e1))
/-- x and y, x or y of truth values -/
theorem we_one {op} (h : WE X Γ M a Φ) : WE X Γ M (.BoolOp op [a] pos) Φ := fun P σ H s m => wpT_of (pe_one pe_wp) (h P σ H s m)
theorem we_and (h : WE X Γ M a fun d M1 => ∃ k, d = .bl k ∧ (k = true → WE X Γ M1 (.BoolOp .And (b :: rest) pos) Φ) ∧ (k = false → Φ (.bl false) M1)) : WE X Γ M (.BoolOp .And (a :: b :: rest) pos) Φ := fun P σ H s m =>
  wpT_of (pe_and pe_wp pe_wp) ((h P σ H s m).mono fun v H1 ⟨d, M1, P1, ⟨k, ek, qt, qf⟩, e1, m1, i1⟩ => by
    subst ek
    cases i1
    refine ⟨k, rfl, ?_⟩
    cases k with
    | true => exact iteT ((qt rfl P1 σ H1 (s.mono e1) m1).mono fun _ _ z => z.up e1)
    | false => exact iteF ⟨_, M1, P1, qf rfl, e1, m1, .bl⟩)
theorem we_or (h : WE X Γ M a fun d M1 => ∃ k, d = .bl k ∧ (k = true → Φ (.bl true) M1) ∧ (k = false → WE X Γ M1 (.BoolOp .Or (b :: rest) pos) Φ)) : WE X Γ M (.BoolOp .Or (a :: b :: rest) pos) Φ := fun P σ H s m =>
  wpT_of (pe_or pe_wp pe_wp) ((h P σ H s m).mono fun v H1 ⟨d, M1, P1, ⟨k, ek, qt, qf⟩, e1, m1, i1⟩ => by
    subst ek
    cases i1
    refine ⟨k, rfl, ?_⟩
    cases k with
    | true => exact iteT ⟨_, M1, P1, qt rfl, e1, m1, .bl⟩
    | false => exact iteF ((qf rfl P1 σ H1 (s.mono e1) m1).mono fun _ _ z => z.up e1))
/-- not x as a value -/
theorem we_not (h : WT X Γ M a fun k M1 => Φ (.bl (!k)) M1) (hq : ∀ pins σ H s (Q : VK), Inv X pins σ H s → wpB X a σ H (fun k H' => Q (.bl (!k)) H') → wpAny (model X.prog X.w) X.A (eval (.UnaryOp .Not a pos) X.env) (EP X pins σ Q) X.xe s) : WE X Γ M (.UnaryOp .Not a pos) Φ := fun P σ H s m pins sh I =>
  hq pins σ H sh _ I ((h P σ H s m).mono fun k H1 ⟨M1, P1, q, e1, m1⟩ => ⟨_, M1, P1, q, e1, m1, .bl⟩)
/-! ### new tuples, new lists -/
theorem we_tup {x1} (h : WA X Γ M es fun ds M1 => ds.length ≤ sizeLine ∧ Φ (.tup ds) M1) : WE X Γ M (.Tuple es x1 pos) Φ := fun P σ H s m =>
  wpT_of (pe_tup pa_wp) ((h P σ H s m).mono fun vs H1 ⟨ds, M1, P1, ⟨hl, q⟩, e1, m1, i1⟩ => ⟨by rw [i1.1]; exact hl, fun p hp => by
    obtain ⟨m2, e2⟩ := m1.push (o := .tup vs) hp
    exact ⟨_, M1, _, q, e1.trans e2, m2, .tup (SqT.of upd_same) i1.1 fun i x d a b => (i1.2 i x d a b).mono e2⟩⟩)
theorem we_lst (h : WA X Γ M es fun ds M1 => ds.length ≤ sizeLine ∧ Φ (.lst ds) M1) : WE X Γ M (.List es pos) Φ := fun P σ H s m =>
  wpT_of (pe_lst pa_wp) ((h P σ H s m).mono fun vs H1 ⟨ds, M1, P1, ⟨hl, q⟩, e1, m1, i1⟩ => ⟨by rw [i1.1]; exact hl, fun p hp => by
    obtain ⟨m2, e2⟩ := m1.push (o := .lst vs) hp
    exact ⟨_, M1, _, q, e1.trans e2, m2, .lst (SqL.of upd_same) i1.1 fun i x d a b => (i1.2 i x d a b).mono e2⟩⟩)
/-- a list of one's own -/
theorem we_lstO (h : WA X Γ M es fun ds M1 => ds.length ≤ sizeLine ∧ ∀ l, Φ (.adr l) ((l, .lst ds) :: M1)) : WE X Γ M (.List es pos) Φ := fun P σ H s m =>
  wpT_of (pe_lst pa_wp) ((h P σ H s m).mono fun vs H1 ⟨ds, M1, P1, ⟨hl, q⟩, e1, m1, i1⟩ => ⟨by rw [i1.1]; exact hl, fun p hp =>
    ⟨_, _, P1, q p, e1, m1.own hp ⟨vs, upd_same, i1⟩, .adr⟩⟩)
/-! ### built-in calls -/
theorem we_callB {x : Str} {id : String} (hg : Gl X x) (hm : X.mg x = none) (hv : bootBuiltins x = some (.builtin id)) (hn : x ≠ "__name__") (hdb : (x == ("__debug__" : Str)) = false) (h : WA X Γ M (e :: es) fun ds M1 => CaD X (.builtin id) ds M1 Φ)
    (hq : PE X (.Call (.Name x p) (e :: es) [] pos) (tCB (caT X (.builtin id)) (wpA X (e :: es))) := by exact pe_callB ca_wp (by rfl) (by assumption) (by assumption) pa_wp) : WE X Γ M (.Call (.Name x p) (e :: es) [] pos) Φ := fun P σ H s m =>
  wpT_of hq ((h P σ H s m).mono fun vs H1 ⟨ds, M1, P1, q, e1, m1, i1⟩ => (q P1 H1 vs m1 i1).mono fun _ _ z => z.up e1)
theorem we_callTy {x : Str} {T : String} (hg : Gl X x) (hm : X.mg x = none) (hv : bootBuiltins x = some (.type T)) (hn : x ≠ "__name__") (hdb : (x == ("__debug__" : Str)) = false) (h : WA X Γ M (e :: es) fun ds M1 => CaD X (.type T) ds M1 Φ)
    (hq : PE X (.Call (.Name x p) (e :: es) [] pos) (tCB (caT X (.type T)) (wpA X (e :: es))) := by exact pe_callTy ca_wp (by rfl) (by assumption) (by assumption) pa_wp) : WE X Γ M (.Call (.Name x p) (e :: es) [] pos) Φ := fun P σ H s m =>
  wpT_of hq ((h P σ H s m).mono fun vs H1 ⟨ds, M1, P1, q, e1, m1, i1⟩ => (q P1 H1 vs m1 i1).mono fun _ _ z => z.up e1)
/-! ### blocks -/
theorem ws_nil (h : Ψ.nx Γ M) : WS X Γ M [] Ψ := fun P σ H s m => wpSs_of pss_nil ⟨Γ, M, P, h, Same.refl P, s, m⟩
theorem ws_cons (h : W1 X Γ M st { Ψ with nx := fun Γ' M' => WS X Γ' M' sts Ψ }) : WS X Γ M (st :: sts) Ψ := fun P σ H s m =>
  wpSs_of (pss_cons ps_wp pss_wp) ((h P σ H s m).mono ⟨fun σ' H' ⟨Γ', M', P', q, e, s', m'⟩ => (q P' σ' H' s' m').mono (Ψ.up e), fun _ _ z => z, fun _ _ z => z, fun _ _ z => z⟩)
/-- the last statement of a block -/
theorem ws_one (h : W1 X Γ M st Ψ) : WS X Γ M [st] Ψ := fun P σ H s m => wpSs_of (pss_one ps_wp) (h P σ H s m)
/-- what is shown of the state is weakened ahead of a block -/
theorem ws_weak {Γ' : Sl} {M' : Mem} (h : WS X Γ' M' sts Ψ) (hl : Γ'.length = Γ.length) (hi : ∀ (i : Nat) (d : D), Γ'[i]? = some (some d) → Γ[i]? = some (some d)) (hm : M'.Sublist M) : WS X Γ M sts Ψ := fun P σ H s m => h P σ H (s.weak hl hi) (m.sub hm)
/-- a list of one's own, in a slot, changes no more -/
theorem ws_freeze {i : Nat} {l : Addr} {ds : List D} (hi : Γ[i]? = some (some (.adr l))) (h : WS X (Γ.set i (some (.lst ds))) M sts Ψ) : WS X Γ ((l, .lst ds) :: M) sts Ψ := fun P σ H s m => by
  obtain ⟨hp, xs, hx, hd⟩ := m.at_ l _ List.mem_cons_self
  obtain ⟨m2, e2⟩ := m.freeze hx
  refine (h (upd P l (.lst xs)) σ H ?_ m2).mono (Ψ.up e2)
  obtain ⟨v, hv, iv⟩ := s.at_ i _ hi
  have ev : v = .ref l := by cases iv; rfl
  subst ev
  have hb := (List.getElem?_eq_some_iff.mp hv).1
  have hset : σ.set i (some (V.ref l)) = σ := by
    refine List.ext_getElem? fun j => ?_
    by_cases hj : i = j
    · subst hj
      rw [List.getElem?_set_self hb, hv]
    · rw [List.getElem?_set_ne hj]
  have s2 := (s.mono e2).set (i := i) (v := V.ref l) (d := .lst ds) (.lst (SqL.of upd_same) hd.1 fun j x d a b => (hd.2 j x d a b).mono e2)
  rw [hset] at s2
  exact s2
theorem w1_set {i : Nat} {x : Str} (hN : X.N.Nodup) (hi : X.N[i]? = some x) (hx : Loc X.env.scope x) (h : WE X Γ M e fun d M1 => Ψ.nx (Γ.set i (some d)) M1) (hs : swapsWith e (some (.Name x pos')) pos.line X.env = pure false)
    (hf : X.fn x = true ∨ X.env.scope.names.lookup x = some .local) : W1 X Γ M (.Assign [.Name x pos'] e pos) Ψ := fun P σ H s m =>
  wpS_of (ps_set hN hi hx pe_wp hs hf) ((h P σ H s m).mono fun v H1 ⟨d, M1, P1, q, e1, m1, i1⟩ => ⟨_, M1, P1, q, e1, (s.mono e1).set i1, m1⟩)
theorem w1_ret (h : WE X Γ M e Ψ.rt) : W1 X Γ M (.Return (some e) pos) Ψ := fun P σ H s m => wpS_of (ps_ret pe_wp) (h P σ H s m)
theorem w1_retN (h : Ψ.rt .non M) : W1 X Γ M (.Return none pos) Ψ := fun P σ H s m => wpS_of ps_retN (.one h m .non)
theorem w1_pass (h : Ψ.nx Γ M) : W1 X Γ M (.Pass pos) Ψ := fun P σ H s m => wpS_of ps_pass ⟨Γ, M, P, h, Same.refl P, s, m⟩
theorem w1_expr (h : WE X Γ M e fun _ M1 => Ψ.nx Γ M1) (hs : swapsWith e none pos.line X.env = pure false) : W1 X Γ M (.Expr e pos) Ψ := fun P σ H s m =>
  wpS_of (ps_expr pe_wp hs) ((h P σ H s m).mono fun v H1 ⟨d, M1, P1, q, e1, m1, i1⟩ => ⟨Γ, M1, P1, q, e1, s.mono e1, m1⟩)
theorem w1_if {A E : List Stmt} (h : WT X Γ M c fun k M1 => (k = true → WS X Γ M1 A Ψ) ∧ (k = false → WS X Γ M1 E Ψ)) : W1 X Γ M (.If c A E pos) Ψ := fun P σ H s m =>
  wpS_of (ps_if pt_wp pss_wp pss_wp) ((h P σ H s m).mono fun k H1 ⟨M1, P1, q, e1, m1⟩ => by
    cases k with
    | true => exact iteT ((q.1 rfl P1 σ H1 (s.mono e1) m1).mono (Ψ.up e1))
    | false => exact iteF ((q.2 rfl P1 σ H1 (s.mono e1) m1).mono (Ψ.up e1)))
end
end Dt

set_option Elab.async false
set_option linter.all false
set_option maxRecDepth 100000
set_option maxHeartbeats 2000000
/-! Dt, part 3: defs by data; numbers, places, attributes, methods, makers. -/
namespace Dt
open PySem PySem.Spec PyProof.Rows L2
/-! ### a def's promise by data -/
abbrev DS := List D → Mem → VP → Prop
def spOf (K : PySem.W.Frag) (S : DS) : Sp := fun vs H Q _ => ∃ P M ds Φ, IsDs K P vs ds ∧ MOk K M P H ∧ S ds M Φ ∧ ∀ v H', Fin K P Φ v H' → Q v H'
def startD (n : Nat) (ds : List D) : Sl := ds.map some ++ List.replicate (n - ds.length) none
theorem sok_start {K : PySem.W.Frag} {P : Hp} {N : List Str} {vs : List V} {ds : List D} (h : IsDs K P vs ds) : SOk K (startD N.length ds) P (L2.start N vs) := by
  have hl := h.1
  refine ⟨by unfold startD L2.start; rw [List.length_append, List.length_append, List.length_map, List.length_map, List.length_replicate, List.length_replicate, hl], fun i d q => ?_⟩
  unfold startD at q
  by_cases hi : i < ds.length
  · rw [List.getElem?_append_left (by rw [List.length_map]; exact hi), List.getElem?_map, List.getElem?_eq_getElem hi] at q
    have e : ds[i] = d := by simpa using q
    obtain ⟨x, hx, ix⟩ := h.get (i := i) (d := d) (by rw [List.getElem?_eq_getElem hi, e])
    refine ⟨x, ?_, ix⟩
    unfold L2.start
    rw [List.getElem?_append_left (by rw [List.length_map, hl]; exact hi), List.getElem?_map, hx]
    rfl
  · rw [List.getElem?_append_right (by rw [List.length_map]; omega)] at q
    have hm := List.mem_of_getElem? q
    have := (List.mem_replicate.mp hm).2
    cases this
section
variable {P : Program} {w : World} {K : PySem.W.Frag} {mg : Str → Option Value} {base : Heap} {x qual : Str} {params : Arguments} {body : List Stmt} {scope : Scope} {dvs : List V} {kws : List (Str × V)} {f : Addr} {fd : FuncData}
/-- THE RULE for a def by data -/
theorem fn_data {N ps : List Str} {k : Nat} {S : DS} (F : FunD K x qual params body scope dvs kws f fd) (Sc : FnScope N ps scope) (len : ∀ ds M Φ, S ds M Φ → ds.length = ps.length)
    (hbody : ∀ (cdv : Value) (A : Around) (outer : List Env) (s : Shared) (H : Hp) (E : XK) (ds : List D) (M : Mem) (Φ : VP), Room k (A.deeper (envOfC qual scope s.heap.objs.size f cdv)) → S ds M Φ →
      WS (cxOf CX0 P w K mg base N qual scope f cdv A outer s H E).nox (startD N.length ds) M body { nx := fun _ M' => Φ .non M', rt := Φ }) : FnOk P w K mg base CX0 (k + 1) f fd ps (spOf K S) := by
  refine F.ok Sc (fun vs H Q E h => ?_) (fun cdv A outer s H vs Q E hr h => ?_)
  · obtain ⟨P1, M, ds, Φ, i, m, hs, _⟩ := h
    rw [i.1]
    exact len _ _ _ hs
  · obtain ⟨P1, M, ds, Φ, i, m, hs, hq⟩ := h
    refine ⟨_, PSs.nox pss_wp, ?_⟩
    refine (hbody cdv A outer s H E ds M Φ hr hs P1 (L2.start N vs) H (sok_start i) m).mono ⟨fun σ' H' ⟨Γ', M', P', q, e, _, m'⟩ => hq _ _ ⟨.non, M', P', q, e, m', .non⟩, fun v H' z => hq v H' z, fun _ _ ⟨_, _, _, z, _⟩ => z.elim, fun _ _ ⟨_, _, _, z, _⟩ => z.elim⟩
end
/-- a def that the module's name x stands for -/
def HasFn (P : Program) (w : World) (K : PySem.W.Frag) (mg : Str → Option Value) (base : Heap) (k : Nat) (x : Str) (S : DS) : Prop :=
  ∃ f fd ps, FnOk P w K mg base CX0 k f fd ps (spOf K S) ∧ mg x = some (.ref f) ∧ PySem.W.keepIn K (.ref f) = true ∧ Binds K fd ps []
/-- a method m of the class at C -/
def HasMe (P : Program) (w : World) (K : PySem.W.Frag) (mg : Str → Option Value) (base : Heap) (k : Nat) (C : Addr) (m : Str) (S : DS) : Prop :=
  ∃ f fd ps, FnOk P w K mg base CX0 k f fd ps (spOf K S) ∧ Meth K C m f ∧ Binds K fd ps []
/-- a property m of the class at C -/
def HasPr (P : Program) (w : World) (K : PySem.W.Frag) (mg : Str → Option Value) (base : Heap) (k : Nat) (C : Addr) (m : Str) (S : DS) : Prop :=
  ∃ p f fd ps, FnOk P w K mg base CX0 k f fd ps (spOf K S) ∧ PropOf K C m p f ∧ Binds K fd ps []
/-- the class at C, of the name x, made by its __init__ -/
def HasMk (P : Program) (w : World) (K : PySem.W.Frag) (mg : Str → Option Value) (base : Heap) (k : Nat) (C : Addr) (x : Str) (S : DS) : Prop :=
  ∃ f fd ps, FnOk P w K mg base CX0 k f fd ps (spOf K S) ∧ Mk K C f ∧ mg x = some (.ref C) ∧ Binds K fd ps []
section
variable {X : Cx} {Γ : Sl} {M : Mem} {Φ : VP} {Ψ : Po} {e a b c o : Expr} {es : List Expr} {pos p pos' apos : Pos} {k : Nat} {x f : Str} {S : DS}
theorem sp_of {P : Hp} {H : Hp} {vs : List V} {ds : List D} {E : XK} {K : PySem.W.Frag} (i : IsDs K P vs ds) (m : MOk K M P H) (s : S ds M Φ) : spOf K S (vs ++ []) H (Fin K P Φ) E := ⟨P, M, ds, Φ, by rw [List.append_nil]; exact i, m, s, fun _ _ z => z⟩
/-- f(e, ..) -/
theorem we_call (F : HasFn X.prog X.w X.K X.mg X.base k x S) (hr : Room k X.A) (hg : Gl X x) (h : WA X Γ M (e :: es) fun ds M1 => S ds M1 Φ) (hdb : (x == ("__debug__" : Str)) = false) (he : starEach (e :: es) X.env = (false, eval e X.env) :: starEach es X.env)
    (hpl : (backTo pos (starEach es X.env)).any (·.1) = false) : WE X Γ M (.Call (.Name x p) (e :: es) [] pos) Φ := fun P σ H s m => by
  obtain ⟨f, fd, ps, F1, hm, hk, hb⟩ := F
  exact wpT_of (pe_call F1 hr hg hm hk hb .nil pass0 pa_wp hdb he hpl) ((h P σ H s m).mono fun vs H1 ⟨ds, M1, P1, q, e1, m1, i1⟩ => by
    obtain ⟨P2, M2, d2, Φ2, a1, a2, a3, a4⟩ := sp_of (E := E0) i1 m1 q
    exact ⟨P2, M2, d2, Φ2, a1, a2, a3, fun v H' z => (a4 v H' z).up e1⟩)
theorem we_call0 (F : HasFn X.prog X.w X.K X.mg X.base k x S) (hr : Room k X.A) (hg : Gl X x) (h : S [] M Φ) (hdb : (x == ("__debug__" : Str)) = false) : WE X Γ M (.Call (.Name x p) [] [] pos) Φ := fun P σ H s m => by
  obtain ⟨f, fd, ps, F1, hm, hk, hb⟩ := F
  exact wpT_of (pe_call0 F1 hr hg hm hk hb .nil pass0 hdb) (sp_of (E := E0) .nil m h)
/-! ### objects -/
/-- an object of the class at C with these attributes, one's own (in M) or not -/
def ObjD (M : Mem) (d : D) (C : Addr) (fs : List (Str × D)) : Prop := d = .obj C fs ∨ ∃ (j : Nat) (l : Addr), d = .adr l ∧ M[j]? = some (l, .ins C fs)
theorem ObjD.at_ {K : PySem.W.Frag} {P H : Hp} {d : D} {C : Addr} {fs : List (Str × D)} {v : V} (h : ObjD M d C fs) (m : MOk K M P H) (i : IsD K P v d) : ∃ a dx xs, v = .ref a ∧ H a = some (.ins C dx xs) ∧ IsFs K P xs fs := by
  rcases h with rfl | ⟨j, l, rfl, hl⟩
  · cases i with
    | obj h hl hi => exact ⟨_, _, _, rfl, m.ex _ _ h, hl, hi⟩
  · cases i
    obtain ⟨_, dx, xs, h1, h2⟩ := m.get hl
    exact ⟨_, dx, xs, rfl, h1, h2⟩
/-- an attribute, by data -/
def AtD (X : Cx) (f : Str) (d : D) (M : Mem) (Φ : VP) : Prop := ∀ P H v, MOk X.K M P H → IsD X.K P v d → ∀ pins σ s u, Inv X pins σ H s → RelV v u → wpAny (model X.prog X.w) X.A (getAttr u f true) (EP X pins σ (Fin X.K P Φ)) X.xe s
theorem we_attr (h : WE X Γ M e fun d M1 => AtD X f d M1 Φ) (hb : attributeBase e f X.env (eval e X.env) = eval e X.env) : WE X Γ M (.Attribute e f pos) Φ := fun P σ H s m pins sh I =>
  attr_of hb (thn (h P σ H s m pins sh I) fun u s1 ⟨v, H1, I1, r1, d, M1, P1, q, e1, m1, i1⟩ => thn (q P1 H1 v m1 i1 pins σ s1 u I1 r1) fun u2 s2 ⟨v2, H2, I2, r2, z⟩ => ⟨v2, H2, I2, r2, z.up e1⟩)
theorem at_fld {d v : D} {C : Addr} {fs : List (Str × D)} (ho : ObjD M d C fs) (hl : fs.lookup f = some v) (c : Cls X.K C) (n : NoAttr X.K C f) (h : Φ v M) : AtD X f d M Φ := fun P H v1 m i pins σ s u I r => by
  obtain ⟨a, dx, xs, rfl, ha, hx⟩ := ho.at_ m i
  cases r
  obtain ⟨y, h1, h2⟩ := hx.lookup hl
  exact getattr_ok I ha c n h1 fun u' s2 I2 ru => ⟨y, H, I2, ru, v, M, P, h, Same.refl P, m, h2⟩
theorem at_prop {d : D} {C : Addr} {fs : List (Str × D)} (F : HasPr X.prog X.w X.K X.mg X.base k C f S) (hr : Room (k + 1) X.A) (ho : ObjD M d C fs) (c : Cls X.K C) (h : S [d] M Φ) : AtD X f d M Φ := fun P H v1 m i pins σ s u I r => by
  obtain ⟨a, dx, xs, rfl, ha, hx⟩ := ho.at_ m i
  cases r
  obtain ⟨p, g, fd, ps, F1, hp, hb⟩ := F
  exact getprop_ok I ha c hp F1 hr hb .nil pass0 (sp_of (vs := [.ref a]) (.cons i .nil) m h)
/-- o.m(e, ..) -/
theorem we_meth {m : Str} {C : Addr} (F : HasMe X.prog X.w X.K X.mg X.base k C m S) (hr : Room k X.A) (c : Cls X.K C) (h : WE X Γ M o fun d M1 => (∃ fs, ObjD M1 d C fs ∧ fs.lookup m = none) ∧ WA X Γ M1 (e :: es) fun ds M2 => S (d :: ds) M2 Φ)
    {pl : Sem Bool} (hst : starEach (e :: es) X.env = (false, eval e X.env) :: starEach es X.env) (hpl : (backTo pos (starEach es X.env)).any (·.1) = false)
    (ht : eval (.Call (.Attribute o m apos) (e :: es) [] pos) X.env = (do
      let ov ← eval o X.env
      standAt apos.atName
      let (f, first) ← holding [ov] (getMethod ov m pl)
      callWith pos f first (backTo pos (starEach (e :: es) X.env)) (backToKw pos (keywordEach [] X.env)))) : WE X Γ M (.Call (.Attribute o m apos) (e :: es) [] pos) Φ := fun P σ H s mo => by
  obtain ⟨f, fd, ps, F1, hm, hb⟩ := F
  refine wpT_of (pe_meth pe_wp c hm F1 hr hb .nil pass0 pa_wp hst hpl ht) ((h P σ H s mo).mono fun v H1 ⟨d, M1, P1, ⟨⟨fs, ho, hn⟩, q⟩, e1, m1, i1⟩ => ?_)
  obtain ⟨a, dx, xs, rfl, ha, hx⟩ := ho.at_ m1 i1
  refine ⟨a, dx, xs, rfl, ha, hx.lookup_none hn, (q P1 σ H1 (s.mono e1) m1).mono fun vs H2 ⟨ds, M2, P2, q2, e2, m2, i2⟩ => ?_⟩
  obtain ⟨P3, M3, d3, Φ3, a1, a2, a3, a4⟩ := sp_of (E := E0) (vs := .ref a :: vs) (.cons (i1.mono e2) i2) m2 q2
  exact ⟨P3, M3, d3, Φ3, a1, a2, a3, fun v H' z => (a4 v H' z).up (e1.trans e2)⟩
theorem we_meth0 {m : Str} {C : Addr} (F : HasMe X.prog X.w X.K X.mg X.base k C m S) (hr : Room k X.A) (c : Cls X.K C) (h : WE X Γ M o fun d M1 => (∃ fs, ObjD M1 d C fs ∧ fs.lookup m = none) ∧ S [d] M1 Φ)
    {pl : Sem Bool} (ht : eval (.Call (.Attribute o m apos) [] [] pos) X.env = (do
      let ov ← eval o X.env
      standAt apos.atName
      let (f, first) ← holding [ov] (getMethod ov m pl)
      callWith pos f first (backTo pos (starEach [] X.env)) (backToKw pos (keywordEach [] X.env)))) : WE X Γ M (.Call (.Attribute o m apos) [] [] pos) Φ := fun P σ H s mo => by
  obtain ⟨f, fd, ps, F1, hm, hb⟩ := F
  refine wpT_of (pe_meth0 pe_wp c hm F1 hr hb .nil pass0 ht) ((h P σ H s mo).mono fun v H1 ⟨d, M1, P1, ⟨⟨fs, ho, hn⟩, q⟩, e1, m1, i1⟩ => ?_)
  obtain ⟨a, dx, xs, rfl, ha, hx⟩ := ho.at_ m1 i1
  refine ⟨a, dx, xs, rfl, ha, hx.lookup_none hn, ?_⟩
  obtain ⟨P3, M3, d3, Φ3, a1, a2, a3, a4⟩ := sp_of (E := E0) (vs := [.ref a]) (.cons i1 .nil) m1 q
  exact ⟨P3, M3, d3, Φ3, a1, a2, a3, fun v H' z => (a4 v H' z).up e1⟩
/-- C(e, ..) -/
theorem we_make {C : Addr} (F : HasMk X.prog X.w X.K X.mg X.base k C x S) (hr : Room (k + 1) X.A) (hg : Gl X x) (h : WA X Γ M (e :: es) fun ds M1 => ∀ l, S (.adr l :: ds) ((l, .ins C []) :: M1) fun r M2 => r = .non ∧ Φ (.adr l) M2)
    (hdb : (x == ("__debug__" : Str)) = false) (he : starEach (e :: es) X.env = (false, eval e X.env) :: starEach es X.env) (hpl : (backTo pos (starEach es X.env)).any (·.1) = false) : WE X Γ M (.Call (.Name x p) (e :: es) [] pos) Φ := fun P σ H s m => by
  obtain ⟨f, fd, ps, F1, mk, hm, hb⟩ := F
  refine wpT_of (pe_make mk F1 hr hg hm hb .nil pass0 pa_wp hdb he hpl) ((h P σ H s m).mono fun vs H1 ⟨ds, M1, P1, q, e1, m1, i1⟩ => ?_)
  intro l dx hl hdx hne
  obtain ⟨m2, e2⟩ := m1.push (o := .own l) hdx
  have hl2 : upd H1 dx (.own l) l = none := by
    rw [upd_ne (fun z => hne z.symm)]
    exact hl
  have m3 : MOk X.K ((l, .ins C []) :: M1) (upd P1 dx (.own l)) (upd (upd H1 dx (.own l)) l (.ins C dx [])) := m2.own hl2 ⟨dx, [], upd_same, .nil⟩
  obtain ⟨P3, M3, d3, Φ3, a1, a2, a3, a4⟩ := sp_of (E := E0) (vs := .ref l :: vs) (.cons .adr (i1.mono e2)) m3 (q l)
  refine ⟨P3, M3, d3, Φ3, a1, a2, a3, fun v H' z => ?_⟩
  obtain ⟨d4, M4, P4, ⟨z1, z2⟩, z3, z4, z5⟩ := a4 v H' z
  subst z1
  cases z5
  exact ⟨rfl, _, M4, P4, z2, (e1.trans e2).trans z3, z4, .adr⟩
/-- .. and it changes no more -/
theorem frz_ins {K : PySem.W.Frag} {P H : Hp} {l C : Addr} {fs : List (Str × D)} (m : MOk K ((l, .ins C fs) :: M) P H) : ∃ P2, Ex P P2 ∧ MOk K M P2 H ∧ IsD K P2 (.ref l) (.obj C fs) := by
  obtain ⟨_, dx, xs, h1, h2⟩ := m.at_ l _ List.mem_cons_self
  obtain ⟨m2, e2⟩ := m.freeze h1
  exact ⟨_, e2, m2, .obj upd_same h2.1 fun i x d a b => (h2.2 i x d a b).mono e2⟩
theorem frz_lst {K : PySem.W.Frag} {P H : Hp} {l : Addr} {ds : List D} (m : MOk K ((l, .lst ds) :: M) P H) : ∃ P2, Ex P P2 ∧ MOk K M P2 H ∧ IsD K P2 (.ref l) (.lst ds) := by
  obtain ⟨_, xs, h1, h2⟩ := m.at_ l _ List.mem_cons_self
  obtain ⟨m2, e2⟩ := m.freeze h1
  exact ⟨_, e2, m2, .lst (SqL.of upd_same) h2.1 fun i x d a b => (h2.2 i x d a b).mono e2⟩
theorem we_makeF {C : Addr} (F : HasMk X.prog X.w X.K X.mg X.base k C x S) (hr : Room (k + 1) X.A) (hg : Gl X x) (h : WA X Γ M (e :: es) fun ds M1 => ∀ l, S (.adr l :: ds) ((l, .ins C []) :: M1) fun r M2 => r = .non ∧ ∃ fs M3, M2 = (l, .ins C fs) :: M3 ∧ Φ (.obj C fs) M3)
    (hdb : (x == ("__debug__" : Str)) = false) (he : starEach (e :: es) X.env = (false, eval e X.env) :: starEach es X.env) (hpl : (backTo pos (starEach es X.env)).any (·.1) = false) : WE X Γ M (.Call (.Name x p) (e :: es) [] pos) Φ := fun P σ H s m => by
  refine (we_make (Φ := fun d M2 => ∃ l fs M3, d = .adr l ∧ M2 = (l, .ins C fs) :: M3 ∧ Φ (.obj C fs) M3) F hr hg ?_ hdb he hpl P σ H s m).mono fun v H2 ⟨d, M2, P2, ⟨l, fs, M3, e1, e2, q⟩, e3, m3, i3⟩ => ?_
  · refine fun P σ H s m => (h P σ H s m).mono fun vs H1 ⟨ds, M1, P1, q, e1, m1, i1⟩ => ⟨ds, M1, P1, fun l => ?_, e1, m1, i1⟩
    have z := q l
    have e : (fun r M2 => r = D.non ∧ ∃ fs M3, M2 = (l, MO.ins C fs) :: M3 ∧ Φ (.obj C fs) M3) = fun r M2 => r = D.non ∧ ∃ l' fs M3, D.adr l = .adr l' ∧ M2 = (l', MO.ins C fs) :: M3 ∧ Φ (.obj C fs) M3 := by
      funext r M2
      refine propext ⟨fun ⟨a1, fs, M3, a2, a3⟩ => ⟨a1, l, fs, M3, rfl, a2, a3⟩, fun ⟨a1, l', fs, M3, a0, a2, a3⟩ => ⟨a1, fs, M3, ?_, a3⟩⟩
      cases a0
      exact a2
    rw [← e]
    exact z
  · subst e1 e2
    cases i3
    obtain ⟨P4, e4, m4, i4⟩ := frz_ins m3
    exact ⟨_, M3, P4, q, e3.trans e4, m4, i4⟩
/-- self.f = e -/
theorem w1_fld (h : WE X Γ M e fun d M1 => WE X Γ M1 o fun d2 M2 => ∃ (j : Nat) (l C : Addr) (fs : List (Str × D)), d2 = .adr l ∧ M2[j]? = some (l, .ins C fs) ∧ Cls X.K C ∧ NoAttr X.K C f ∧ fs.length < 1000 ∧ Ψ.nx Γ (M2.set j (l, .ins C (putD f d fs))))
    (hs : swapsWith e (some (.Attribute o f pos')) pos.line X.env = pure false) : W1 X Γ M (.Assign [.Attribute o f pos'] e pos) Ψ := fun P σ H s m =>
  wpS_of (ps_fld pe_wp pe_wp hs) ((h P σ H s m).mono fun v H1 ⟨d, M1, P1, q, e1, m1, i1⟩ => (q P1 σ H1 (s.mono e1) m1).mono fun u H2 ⟨d2, M2, P2, ⟨j, l, C, fs, ed, hj, c, n, hl, q2⟩, e2, m2, i2⟩ => by
    subst ed
    cases i2
    obtain ⟨_, dx, xs, h1, h2⟩ := m2.get hj
    refine ⟨l, C, dx, xs, rfl, h1, c, n, by rw [h2.length]; exact hl, Γ, _, P2, q2, e1.trans e2, s.mono (e1.trans e2), ?_⟩
    exact m2.put hj ⟨dx, _, upd_same, h2.put (i1.mono e2)⟩)
end
/-! ### numbers -/
section
variable {X : Cx} {M : Mem} {Φ : VP} {i j : Int}
theorem od_int {f : Value → Value → Sem Value} {C : Int → Int → Prop} {g : Int → Int → V} {d : D} (h : OpR X f (rI C g)) (hc : C i j) (hg : ∀ P, IsD X.K P (g i j) d) (q : Φ d M) : OpD X f (.int i) (.int j) M Φ := fun P H a b m ia ib => by
  cases ia
  cases ib
  exact opT_of h ⟨i, j, rfl, rfl, hc, .one q m (hg P)⟩
theorem od_int0 {f : Value → Value → Sem Value} {g : Int → Int → V} {d : D} (h : OpR X f (rI0 g)) (hg : ∀ P, IsD X.K P (g i j) d) (q : Φ d M) : OpD X f (.int i) (.int j) M Φ := fun P H a b m ia ib => by
  cases ia
  cases ib
  exact opT_of h ⟨i, j, rfl, rfl, .one q m (hg P)⟩
theorem od_add (q : Φ (.int (i + j)) M) : OpD X (binaryOp .Add) (.int i) (.int j) M Φ := od_int0 op_add (fun _ => .int) q
theorem od_sub (q : Φ (.int (i - j)) M) : OpD X (binaryOp .Sub) (.int i) (.int j) M Φ := od_int0 op_sub (fun _ => .int) q
theorem od_mul (hc : CMul i j) (q : Φ (.int (i * j)) M) : OpD X (binaryOp .Mult) (.int i) (.int j) M Φ := od_int op_mul hc (fun _ => .int) q
theorem od_mulW (hc : CMulW i j) (q : Φ (.int (i * j)) M) : OpD X (binaryOp .Mult) (.int i) (.int j) M Φ := od_int op_mulW hc (fun _ => .int) q
theorem od_fdivW (hc : CDivW i j) (q : Φ (.int (i / j)) M) : OpD X (binaryOp .FloorDiv) (.int i) (.int j) M Φ := od_int op_fdivW hc (fun _ => .int) q
theorem od_fdiv (hc : 0 < j ∧ j < 1073741824) (q : Φ (.int (i / j)) M) : OpD X (binaryOp .FloorDiv) (.int i) (.int j) M Φ := od_int op_fdiv hc (fun _ => .int) q
theorem od_mod (hc : 0 < j) (q : Φ (.int (i % j)) M) : OpD X (binaryOp .Mod) (.int i) (.int j) M Φ := od_int op_mod hc (fun _ => .int) q
theorem od_pow (hc : 0 ≤ j ∧ j ≤ 1000000 ∧ i.natAbs < 2 ^ 64) (q : Φ (.int (i ^ j.toNat)) M) : OpD X (binaryOp .Pow) (.int i) (.int j) M Φ := od_int op_pow hc (fun _ => .int) q
theorem od_lt (q : Φ (.bl (decide (i < j))) M) : OpD X (compareOp .Lt) (.int i) (.int j) M Φ := od_int0 op_lt (fun _ => .bl) q
theorem od_le (q : Φ (.bl (decide (i ≤ j))) M) : OpD X (compareOp .LtE) (.int i) (.int j) M Φ := od_int0 op_le (fun _ => .bl) q
theorem od_gt (q : Φ (.bl (decide (j < i))) M) : OpD X (compareOp .Gt) (.int i) (.int j) M Φ := od_int0 op_gt (fun _ => .bl) q
theorem od_ge (q : Φ (.bl (decide (j ≤ i))) M) : OpD X (compareOp .GtE) (.int i) (.int j) M Φ := od_int0 op_ge (fun _ => .bl) q
theorem od_eq (q : Φ (.bl (decide (i = j))) M) : OpD X (compareOp .Eq) (.int i) (.int j) M Φ := fun P H a b m ia ib => by
  cases ia
  cases ib
  have e : decide (V.int i = V.int j) = decide (i = j) := decide_eq_decide.mpr ⟨V.int.inj, fun z => by rw [z]⟩
  exact opT_of op_eq ⟨rfl, .one (by rw [← e] at q; exact q) m .bl⟩
theorem od_ne (q : Φ (.bl (!decide (i = j))) M) : OpD X (compareOp .NotEq) (.int i) (.int j) M Φ := fun P H a b m ia ib => by
  cases ia
  cases ib
  have e : decide (V.int i = V.int j) = decide (i = j) := decide_eq_decide.mpr ⟨V.int.inj, fun z => by rw [z]⟩
  exact opT_of op_ne ⟨rfl, .one (by rw [← e] at q; exact q) m .bl⟩
theorem od_eqS {x y : Str} (q : Φ (.bl (decide (x = y))) M) : OpD X (compareOp .Eq) (.str x) (.str y) M Φ := fun P H a b m ia ib => by
  cases ia
  cases ib
  have e : decide (V.str x = V.str y) = decide (x = y) := decide_eq_decide.mpr ⟨V.str.inj, fun z => by rw [z]⟩
  exact opT_of op_eq ⟨rfl, .one (by rw [← e] at q; exact q) m .bl⟩
theorem od_neS {x y : Str} (q : Φ (.bl (!decide (x = y))) M) : OpD X (compareOp .NotEq) (.str x) (.str y) M Φ := fun P H a b m ia ib => by
  cases ia
  cases ib
  have e : decide (V.str x = V.str y) = decide (x = y) := decide_eq_decide.mpr ⟨V.str.inj, fun z => by rw [z]⟩
  exact opT_of op_ne ⟨rfl, .one (by rw [← e] at q; exact q) m .bl⟩
/-- truth values -/
theorem od_eqB {x y : Bool} (q : Φ (.bl (decide (x = y))) M) : OpD X (compareOp .Eq) (.bl x) (.bl y) M Φ := fun P H a b m ia ib => by
  cases ia
  cases ib
  have e : decide (V.bl x = V.bl y) = decide (x = y) := decide_eq_decide.mpr ⟨V.bl.inj, fun z => by rw [z]⟩
  exact opT_of op_eq ⟨rfl, .one (by rw [← e] at q; exact q) m .bl⟩
theorem od_neB {x y : Bool} (q : Φ (.bl (!decide (x = y))) M) : OpD X (compareOp .NotEq) (.bl x) (.bl y) M Φ := fun P H a b m ia ib => by
  cases ia
  cases ib
  have e : decide (V.bl x = V.bl y) = decide (x = y) := decide_eq_decide.mpr ⟨V.bl.inj, fun z => by rw [z]⟩
  exact opT_of op_ne ⟨rfl, .one (by rw [← e] at q; exact q) m .bl⟩
def isNon : D → Bool
  | .non => true
  | _ => false
theorem isNon_v {K : PySem.W.Frag} {P : Hp} {v : V} {d : D} (h : IsD K P v d) : decide (v = .non) = isNon d := by
  cases h <;> rfl
theorem od_is {x : D} (q : Φ (.bl (isNon x)) M) : OpD X (compareOp .Is) x .non M Φ := fun P H a b m ia ib => by
  cases ib
  exact opT_of op_isN ⟨rfl, .one (by rw [isNon_v ia]; exact q) m .bl⟩
theorem od_isn {x : D} (q : Φ (.bl (!isNon x)) M) : OpD X (compareOp .IsNot) x .non M Φ := fun P H a b m ia ib => by
  cases ib
  exact opT_of op_notN ⟨rfl, .one (by rw [isNon_v ia]; exact q) m .bl⟩
theorem ud_neg (q : Φ (.int (-i)) M) : UnD X (unaryOp .USub) (.int i) M Φ := fun P H a m ia => by
  cases ia
  exact unT_of un_neg ⟨i, rfl, .one q m .int⟩
end
/-! ### truth -/
section
variable {X : Cx} {M : Mem} {B : Bool → Mem → Prop}
theorem tr_of {d : D} {k : Bool} (h : ∀ P H v, MOk X.K M P H → IsD X.K P v d → TruV X.K v H k) (q : B k M) : TrD X d M B := fun P H a m ia =>
  trT_of tru_ok ⟨k, h P H a m ia, M, P, q, Same.refl P, m⟩
theorem tr_bl {b : Bool} (q : B b M) : TrD X (.bl b) M B := tr_of (fun P H v m i => by cases i; exact rfl) q
theorem tr_non (q : B false M) : TrD X .non M B := tr_of (fun P H v m i => by cases i; exact rfl) q
theorem tr_int {i : Int} (q : B (i != 0) M) : TrD X (.int i) M B := tr_of (fun P H v m i => by cases i; exact rfl) q
theorem isE {K : PySem.W.Frag} {P : Hp} {xs : List V} {ds : List D} (h : xs.length = ds.length) : (!ds.isEmpty) = !xs.isEmpty := by
  cases xs with
  | nil => cases ds with
    | nil => rfl
    | cons d r => simp at h
  | cons x r => cases ds with
    | nil => simp at h
    | cons d r => rfl
theorem tr_lst {ds : List D} (q : B (!ds.isEmpty) M) : TrD X (.lst ds) M B := tr_of (fun P H v m i => by
  cases i with
  | lst h hl hi => exact .inl ⟨_, m.ex.seq h, isE (K := X.K) (P := P) hl⟩) q
theorem tr_tup {ds : List D} (q : B (!ds.isEmpty) M) : TrD X (.tup ds) M B := tr_of (fun P H v m i => by
  cases i with
  | tup h hl hi => exact .inr (.inl ⟨_, Same.tupS m.ex h, isE (K := X.K) (P := P) hl⟩)) q
end
/-! ### places of tuples, of lists -/
def IxD (X : Cx) (x y : D) (M : Mem) (Φ : VP) : Prop := ∀ P H a b, MOk X.K M P H → IsD X.K P a x → IsD X.K P b y → rIx X.K a b H (Fin X.K P Φ)
section
variable {X : Cx} {Γ : Sl} {M : Mem} {Φ : VP} {a b : Expr} {pos : Pos}
theorem we_ix (h : WE X Γ M a fun x M1 => WE X Γ M1 b fun y M2 => IxD X x y M2 Φ) (hs : PlainIx b) : WE X Γ M (.Subscript a b pos) Φ := fun P σ H s m =>
  wpT_of (pe_ix ix_seq pe_wp pe_wp hs) ((h P σ H s m).mono fun v H1 ⟨d, M1, P1, q, e1, m1, i1⟩ => (q P1 σ H1 (s.mono e1) m1).mono fun u H2 ⟨d2, M2, P2, q2, e2, m2, i2⟩ => by
    have z := q2 P2 H2 v u m2 (i1.mono e2) i2
    rcases z with ⟨p, xs, i, w, h1, h2, h3, h4, h5⟩ | ⟨p, xs, i, w, h1, h2, h3, h4, h5⟩ | ⟨y, i, c, h1, h2, h3, h4, h5⟩
    · exact .inl ⟨p, xs, i, w, h1, h2, h3, h4, h5.up (e1.trans e2)⟩
    · exact .inr (.inl ⟨p, xs, i, w, h1, h2, h3, h4, h5.up (e1.trans e2)⟩)
    · exact .inr (.inr ⟨y, i, c, h1, h2, h3, h4, h5.up (e1.trans e2)⟩))
theorem atI_rel {K : PySem.W.Frag} {P : Hp} {xs : List V} {ds : List D} {i : Int} {d : D} (hl : xs.length = ds.length) (hi : ∀ (i : Nat) x d, xs[i]? = some x → ds[i]? = some d → IsD K P x d) (h : atI ds i = some d) : ∃ v, atI xs i = some v ∧ IsD K P v d := by
  unfold atI at h ⊢
  rw [hl]
  cases e : ixN ds.length i with
  | none => rw [e] at h; cases h
  | some j =>
    rw [e] at h
    have h' : ds[j]? = some d := h
    have hj : j < xs.length := by rw [hl]; exact (List.getElem?_eq_some_iff.mp h').1
    exact ⟨xs[j], List.getElem?_eq_getElem hj, hi j _ d (List.getElem?_eq_getElem hj) h'⟩
theorem ix_tupI {ds : List D} {i : Int} {d : D} (h : atI ds i = some d) (q : Φ d M) : IxD X (.tup ds) (.int i) M Φ := fun P H v u m iv iu => by
  cases iu
  cases iv with
  | tup hs hl hi =>
    obtain ⟨w, h1, h2⟩ := atI_rel hl hi h
    exact .inr (.inl ⟨_, _, i, w, rfl, rfl, Same.tupS m.ex hs, h1, .one q m h2⟩)
theorem ix_lstI {ds : List D} {i : Int} {d : D} (h : atI ds i = some d) (q : Φ d M) : IxD X (.lst ds) (.int i) M Φ := fun P H v u m iv iu => by
  cases iu
  cases iv with
  | lst hs hl hi =>
    obtain ⟨w, h1, h2⟩ := atI_rel hl hi h
    exact .inl ⟨_, _, i, w, rfl, rfl, m.ex.seq hs, h1, .one q m h2⟩
theorem ix_tup {ds : List D} {j : Nat} {i : Int} {d : D} (hj : i = (j : Int)) (h : ds[j]? = some d) (q : Φ d M) : IxD X (.tup ds) (.int i) M Φ := ix_tupI (by rw [hj]; exact atI_nat h) q
theorem ix_lst {ds : List D} {j : Nat} {i : Int} {d : D} (hj : i = (j : Int)) (h : ds[j]? = some d) (q : Φ d M) : IxD X (.lst ds) (.int i) M Φ := ix_lstI (by rw [hj]; exact atI_nat h) q
theorem ix_ownI {ds : List D} {k : Nat} {l : Addr} {i : Int} {d : D} (hk : M[k]? = some (l, .lst ds)) (h : atI ds i = some d) (q : Φ d M) : IxD X (.adr l) (.int i) M Φ := fun P H v u m iv iu => by
  cases iu
  cases iv
  obtain ⟨_, xs, h1, h2⟩ := m.get hk
  obtain ⟨w, h3, h4⟩ := atI_rel h2.1 h2.2 h
  exact .inl ⟨_, xs, i, w, rfl, rfl, SqL.of h1, h3, .one q m h4⟩
theorem ix_own {ds : List D} {k j : Nat} {l : Addr} {i : Int} {d : D} (hk : M[k]? = some (l, .lst ds)) (hj : i = (j : Int)) (h : ds[j]? = some d) (q : Φ d M) : IxD X (.adr l) (.int i) M Φ := ix_ownI hk (by rw [hj]; exact atI_nat h) q
/-- l[i] = e -/
theorem w1_setI {o e : Expr} {pos' : Pos} {Ψ : Po} (h : WE X Γ M e fun d M1 => WE X Γ M1 o fun d2 M2 => WE X Γ M2 b fun d3 M3 => ∃ (k j : Nat) (l : Addr) (ds : List D) (i : Int), d2 = .adr l ∧ d3 = .int i ∧ M3[k]? = some (l, .lst ds) ∧ i = (j : Int) ∧ j < ds.length ∧ Ψ.nx Γ (M3.set k (l, .lst (ds.set j d))))
    (hg : PG X (.Subscript o b pos') (gSub (wpT X o) (wpT X b) rSetL) := by exact pg_sub pe_wp pe_wp set_list) (hs : swapsWithSole [.Subscript o b pos'] e pos.line X.env = pure false) (hw : swappedStores [.Subscript o b pos'] e X.env = pure none)
    (h1 : (assignEach [.Subscript o b pos'] X.env).map (·.2) = [assign (.Subscript o b pos') X.env]) : W1 X Γ M (.Assign [.Subscript o b pos'] e pos) Ψ := fun P σ H s m =>
  wpS_of (ps_asg pe_wp hg hs hw h1) ((h P σ H s m).mono fun v H1 ⟨d, M1, P1, q, e1, m1, i1⟩ => (q P1 σ H1 (s.mono e1) m1).mono fun u H2 ⟨d2, M2, P2, q2, e2, m2, i2⟩ => (q2 P2 σ H2 (s.mono (e1.trans e2)) m2).mono fun u3 H3 ⟨d3, M3, P3, ⟨k, j, l, ds, i, ea, eb, hk, hj, hb, q3⟩, e3, m3, i3⟩ => by
    subst ea eb hj
    cases i2
    cases i3
    obtain ⟨_, xs, h1, h2⟩ := m3.get hk
    refine ⟨l, xs, (j : Int), j, rfl, rfl, h1, ?_, Γ, _, P3, q3, (e1.trans e2).trans e3, s.mono ((e1.trans e2).trans e3), m3.put hk ⟨_, upd_same, ?_⟩⟩
    · unfold ixN
      rw [if_pos (by omega), if_pos (by rw [h2.1]; omega)]
      simp
    · refine ⟨by rw [List.length_set, List.length_set]; exact h2.1, fun n x d' a b => ?_⟩
      by_cases hn : j = n
      · subst hn
        rw [List.getElem?_set_self (by rw [h2.1]; exact hb)] at a
        rw [List.getElem?_set_self hb] at b
        cases a
        cases b
        exact (i1.mono e2).mono e3
      · rw [List.getElem?_set_ne hn] at a b
        exact h2.2 n x d' a b)
end
end Dt

set_option Elab.async false
set_option linter.all false
set_option maxRecDepth 100000
set_option maxHeartbeats 2000000
/-! Dt, part 4: targets, loops, comprehensions, lists that grow. -/
namespace Dt
open PySem PySem.Spec PyProof.Rows L2
/-! ### names in short -/
section
variable {X : Cx} {Γ : Sl} {M : Mem} {Φ : VP} {Ψ : Po} {e : Expr} {es : List Expr} {pos p pos' : Pos} {B : Bool → Mem → Prop}
theorem wv (i : Nat) {x : Str} {d : D} (hΓ : Γ[i]? = some (some d)) (h : Φ d M) (hN : X.N[i]? = some x := by rfl) (hv : Vis X.env.scope x := by first | exact Or.inl rfl | exact Or.inr (Or.inl rfl) | exact Or.inr (Or.inr rfl))
    (hd : (x == ("__debug__" : Str)) = false := by decide) (hcd : (x == ("__classdict__" : Str)) = false := by decide) : WE X Γ M (.Name x pos) Φ := we_var hN hv hd hcd hΓ h
theorem ws_set (i : Nat) {x : Str} {sts : List Stmt} (hN : X.N.Nodup) (h : WE X Γ M e fun d M1 => WS X (Γ.set i (some d)) M1 sts Ψ) (hi : X.N[i]? = some x := by rfl) (hx : Loc X.env.scope x := by first | exact Or.inl rfl | exact Or.inr rfl) (hs : swapsWith e (some (.Name x pos')) pos.line X.env = pure false := by rfl)
    (hf : X.fn x = true ∨ X.env.scope.names.lookup x = some .local := by first | exact .inl rfl | exact .inr rfl) : WS X Γ M (.Assign [.Name x pos'] e pos :: sts) Ψ := ws_cons (w1_set hN hi hx h hs hf)
theorem ws_ret {sts : List Stmt} (h : WE X Γ M e Ψ.rt) : WS X Γ M (.Return (some e) pos :: sts) Ψ := ws_cons (w1_ret h)
theorem ws_if {c : Expr} {A E sts : List Stmt} (h : WT X Γ M c fun k M1 => (k = true → WS X Γ M1 A { Ψ with nx := fun Γ' M' => WS X Γ' M' sts Ψ }) ∧ (k = false → WS X Γ M1 E { Ψ with nx := fun Γ' M' => WS X Γ' M' sts Ψ })) : WS X Γ M (.If c A E pos :: sts) Ψ := ws_cons (w1_if h)
theorem ws_expr {sts : List Stmt} (h : WE X Γ M e fun _ M1 => WS X Γ M1 sts Ψ) (hs : swapsWith e none pos.line X.env = pure false := by rfl) : WS X Γ M (.Expr e pos :: sts) Ψ := ws_cons (w1_expr h hs)
/-- what is shown once of an expression, a test, a block -/
theorem we_cut {Φ0 : VP} (h : WE X Γ M e Φ0) (q : ∀ d M', Φ0 d M' → Φ d M') : WE X Γ M e Φ := h.mono q
theorem wt_cut (b : Bool) (h : WT X Γ M e fun k M1 => k = b ∧ M1 = M) (q : B b M) : WT X Γ M e B := h.mono fun k M1 ⟨a, c⟩ => by
  subst a c
  exact q
theorem W1.mono {st : Stmt} {Ψ Ψ' : Po} (h : W1 X Γ M st Ψ) (a : ∀ Γ' M', Ψ.nx Γ' M' → Ψ'.nx Γ' M') (b : ∀ d M', Ψ.rt d M' → Ψ'.rt d M') (c : ∀ Γ' M', Ψ.bk Γ' M' → Ψ'.bk Γ' M') (d : ∀ Γ' M', Ψ.ct Γ' M' → Ψ'.ct Γ' M') : W1 X Γ M st Ψ' := fun P σ H s m =>
  (h P σ H s m).mono ⟨fun _ _ z => z.imp a, fun _ _ z => z.imp b, fun _ _ z => z.imp c, fun _ _ z => z.imp d⟩
theorem WS.mono {sts : List Stmt} {Ψ Ψ' : Po} (h : WS X Γ M sts Ψ) (a : ∀ Γ' M', Ψ.nx Γ' M' → Ψ'.nx Γ' M') (b : ∀ d M', Ψ.rt d M' → Ψ'.rt d M') (c : ∀ Γ' M', Ψ.bk Γ' M' → Ψ'.bk Γ' M') (d : ∀ Γ' M', Ψ.ct Γ' M' → Ψ'.ct Γ' M') : WS X Γ M sts Ψ' := fun P σ H s m =>
  (h P σ H s m).mono ⟨fun _ _ z => z.imp a, fun _ _ z => z.imp b, fun _ _ z => z.imp c, fun _ _ z => z.imp d⟩
/-- a statement, then the rest, with a word between them -/
theorem ws_mid {st : Stmt} {sts : List Stmt} (Mid : Sl → Mem → Prop) (h : W1 X Γ M st { Ψ with nx := Mid }) (q : ∀ Γ' M', Mid Γ' M' → WS X Γ' M' sts Ψ) : WS X Γ M (st :: sts) Ψ := ws_cons (h.mono q (fun _ _ z => z) (fun _ _ z => z) (fun _ _ z => z))
end
/-! ### targets -/
def wpG (X : Cx) (tg : Expr) : TG := fun v σ H Q => ∀ pins s u, Inv X pins σ H s → RelV v u → wpAny (model X.prog X.w) X.A (assign tg X.env u) (fun _ s' => ∃ σ' H', Inv X pins σ' H' s' ∧ Q σ' H') X.xe s
def wpGs (X : Cx) (ts : List Expr) : TGs := fun vs σ H Q => ∀ pins s us, Inv X pins σ H s → Vals vs us → wpAny (model X.prog X.w) X.A (assignInOrder ((assignEach ts X.env).map (·.2)) us) (fun _ s' => ∃ σ' H', Inv X pins σ' H' s' ∧ Q σ' H') X.xe s
section
variable {X : Cx} {tg : Expr} {ts : List Expr} {σ : L2.St} {H : Hp} {pos : Pos}
theorem pg_wp : PG X tg (wpG X tg) := ⟨fun pins s _ _ v u _ I r h => h pins s u I r⟩
theorem pgs_wp : PGs X ts (wpGs X ts) := ⟨fun pins s _ _ v u _ I r h => h pins s u I r⟩
theorem wpG_of {t : TG} (h : PG X tg t) {v : V} {Q : L2.St → Hp → Prop} (q : t v σ H Q) : wpG X tg v σ H Q := fun pins s u I r => h.run pins s σ H v u Q I r q
theorem wpGs_of {t : TGs} (h : PGs X ts t) {vs : List V} {Q : L2.St → Hp → Prop} (q : t vs σ H Q) : wpGs X ts vs σ H Q := fun pins s u I r => h.run pins s σ H vs u Q I r q
theorem wpG.mono {v : V} {Q Q' : L2.St → Hp → Prop} (h : wpG X tg v σ H Q) (q : ∀ σ H, Q σ H → Q' σ H) : wpG X tg v σ H Q' := fun pins s u I r => thn (h pins s u I r) fun _ _ ⟨σ', H', a, b⟩ => ⟨σ', H', a, q _ _ b⟩
theorem wpGs.mono {v : List V} {Q Q' : L2.St → Hp → Prop} (h : wpGs X ts v σ H Q) (q : ∀ σ H, Q σ H → Q' σ H) : wpGs X ts v σ H Q' := fun pins s u I r => thn (h pins s u I r) fun _ _ ⟨σ', H', a, b⟩ => ⟨σ', H', a, q _ _ b⟩
end
def GD (X : Cx) (Γ : Sl) (M : Mem) (tg : Expr) (d : D) (Θ : Sl → Mem → Prop) : Prop := ∀ P σ H v, SOk X.K Γ P σ → MOk X.K M P H → IsD X.K P v d → wpG X tg v σ H (FinS X.K P Θ)
def GDs (X : Cx) (Γ : Sl) (M : Mem) (ts : List Expr) (ds : List D) (Θ : Sl → Mem → Prop) : Prop := ∀ P σ H vs, SOk X.K Γ P σ → MOk X.K M P H → IsDs X.K P vs ds → wpGs X ts vs σ H (FinS X.K P Θ)
section
variable {X : Cx} {Γ : Sl} {M : Mem} {tg e o : Expr} {ts : List Expr} {Θ : Sl → Mem → Prop} {pos pos' : Pos} {Ψ : Po} {d : D} {ds : List D} {f : Str}
theorem gd_name (i : Nat) {x : Str} (hN : X.N.Nodup) (h : Θ (Γ.set i (some d)) M) (hi : X.N[i]? = some x := by rfl) (hx : Loc X.env.scope x := by first | exact Or.inl rfl | exact Or.inr rfl) (hf : X.fn x = true ∨ X.env.scope.names.lookup x = some .local := by first | exact .inl rfl | exact .inr rfl) : GD X Γ M (.Name x pos) d Θ := fun P σ H v s m i1 =>
  wpG_of (pg_name hN hi hx hf) ⟨_, M, P, h, Same.refl P, s.set i1, m⟩
theorem gds_nil (h : Θ Γ M) : GDs X Γ M [] [] Θ := fun P σ H v s m i1 => wpGs_of pgs_nil ⟨i1.unnil, Γ, M, P, h, Same.refl P, s, m⟩
theorem gds_cons (h : GD X Γ M e d fun Γ' M' => GDs X Γ' M' ts ds Θ) (hs : (assignEach (e :: ts) X.env).map (·.2) = assign e X.env :: (assignEach ts X.env).map (·.2) := by rfl) : GDs X Γ M (e :: ts) (d :: ds) Θ := fun P σ H vs s m i1 => by
  obtain ⟨x, r, rfl, hx, hr⟩ := i1.uncons
  exact wpGs_of (pgs_cons pg_wp pgs_wp hs) ⟨x, r, rfl, (h P σ H x s m hx).mono fun σ' H' ⟨Γ', M', P', q, e1, s1, m1⟩ => (q P' σ' H' r s1 m1 (hr.mono e1)).mono fun _ _ z => z.up e1⟩
theorem gd_tup {n : Nat} {k : Nat} (hc : X.calm = true) (h : GDs X Γ M ts ds Θ) (hl : ds.length = n) (hn : (assignEach ts X.env).length = n := by rfl) (hst : (assignEach ts X.env).findIdx? (·.1) = none := by rfl) : GD X Γ M (.Tuple ts k pos) (.tup ds) Θ := fun P σ H v s m i1 => by
  cases i1 with
  | tup hs hl' hi => exact wpG_of (pg_tup hc pgs_wp hn hst) ⟨_, _, rfl, Same.tupS m.ex hs, by rw [hl', hl], h P σ H _ s m ⟨hl', hi⟩⟩
/-- a target that is an attribute -/
theorem gd_fld (h : WE X Γ M o fun d2 M2 => ∃ (j : Nat) (l C : Addr) (fs : List (Str × D)), d2 = .adr l ∧ M2[j]? = some (l, .ins C fs) ∧ Cls X.K C ∧ NoAttr X.K C f ∧ fs.length < 1000 ∧ Θ Γ (M2.set j (l, .ins C (putD f d fs))))
    (ha : ∀ u, assign (.Attribute o f pos) X.env u = (do
      let ov ← holding [u] (eval o X.env)
      standAt pos
      holding [u, ov] (setAttr ov f u)
      release [u, ov] []) := by intro _; rfl) : GD X Γ M (.Attribute o f pos) d Θ := fun P σ H v s m i1 pins sh u I r => by
  rw [ha]
  refine wpAny_bind (wpAny_holding (thn (h P σ H s m pins sh I) fun ov s1 ⟨x, H1, I1, r1, d2, M2, P2, ⟨j, l, C, fs, ed, hj, c, n, hl, q2⟩, e2, m2, i2⟩ => ?_))
  subst ed
  cases i2
  obtain rfl : ov = Value.ref l := r1
  obtain ⟨_, dx, xs, h1, h2⟩ := m2.get hj
  refine wpAny_bind (wpAny_standAt (wpAny_bind (wpAny_holding (setattr_ok I1 h1 c n (by rw [h2.length]; exact hl) r fun s3 I3 => wpAny_release ?_))))
  exact ⟨σ, _, I3, Γ, _, P2, q2, e2, s.mono e2, m2.put hj ⟨dx, _, upd_same, h2.put (i1.mono e2)⟩⟩
theorem ws_asg {sts : List Stmt} (h : WE X Γ M e fun d M1 => GD X Γ M1 tg d fun Γ' M' => WS X Γ' M' sts Ψ) (hs : swapsWithSole [tg] e pos.line X.env = pure false := by rfl) (hw : swappedStores [tg] e X.env = pure none := by rfl)
    (h1 : (assignEach [tg] X.env).map (·.2) = [assign tg X.env] := by rfl) : WS X Γ M (.Assign [tg] e pos :: sts) Ψ := ws_cons fun P σ H s m =>
  wpS_of (ps_asg pe_wp pg_wp hs hw h1) ((h P σ H s m).mono fun v H1 ⟨d, M1, P1, q, e1, m1, i1⟩ => (q P1 σ H1 v (s.mono e1) m1 i1).mono fun _ _ z => z.up e1)
/-- a, b = x, y with plain local names -/
theorem ws_par (i j : Nat) {x y : Str} {a b : Expr} {sts : List Stmt} {px py pt : Pos} {kt k2 pt2} (hN : X.N.Nodup) (h : WA X Γ M [a, b] fun ds M1 => ∃ d1 d2, ds = [d1, d2] ∧ WS X ((Γ.set i (some d1)).set j (some d2)) M1 sts Ψ)
    (hij : i ≠ j := by decide) (hc : X.calm = true := by rfl) (hi : X.N[i]? = some x := by rfl) (hj : X.N[j]? = some y := by rfl)
    (hx : X.env.scope.names.lookup x = some .local := by rfl) (hy : X.env.scope.names.lookup y = some .local := by rfl)
    (hw : swappedStores [.Tuple [.Name x px, .Name y py] kt pt] (.Tuple [a, b] k2 pt2) X.env = pure (some [x, y]) := by rfl)
    (hs : swapsWithSole [.Tuple [.Name x px, .Name y py] kt pt] (.Tuple [a, b] k2 pt2) pos.line X.env = pure false := by rfl) : WS X Γ M (.Assign [.Tuple [.Name x px, .Name y py] kt pt] (.Tuple [a, b] k2 pt2) pos :: sts) Ψ := ws_cons fun P σ H s m =>
  wpS_of (ps_par hc hN hi hj hij hx hy pa_wp hw hs) ((h P σ H s m).mono fun vs H1 ⟨ds, M1, P1, ⟨d1, d2, ed, q⟩, e1, m1, i1⟩ => by
    subst ed
    obtain ⟨v, r, rfl, hv, hr⟩ := i1.uncons
    obtain ⟨u, r2, rfl, hu, hr2⟩ := hr.uncons
    obtain rfl := hr2.unnil
    exact ⟨v, u, rfl, _, M1, P1, q, e1, ((s.mono e1).set hv).set hu, m1⟩)
theorem ws_par3 (i j l : Nat) {x y z : Str} {a b c : Expr} {sts : List Stmt} {px py pz pt : Pos} {kt k2 pt2} (hN : X.N.Nodup) (h : WA X Γ M [a, b, c] fun ds M1 => ∃ d1 d2 d3, ds = [d1, d2, d3] ∧ WS X (((Γ.set i (some d1)).set j (some d2)).set l (some d3)) M1 sts Ψ)
    (hij : i ≠ j := by decide) (hil : i ≠ l := by decide) (hjl : j ≠ l := by decide) (hc : X.calm = true := by rfl) (hi : X.N[i]? = some x := by rfl) (hj : X.N[j]? = some y := by rfl) (hl : X.N[l]? = some z := by rfl)
    (hx : X.env.scope.names.lookup x = some .local := by rfl) (hy : X.env.scope.names.lookup y = some .local := by rfl) (hz : X.env.scope.names.lookup z = some .local := by rfl)
    (hq : PS X (.Assign [.Tuple [.Name x px, .Name y py, .Name z pz] kt pt] (.Tuple [a, b, c] k2 pt2) pos) (tPar3 i j l (wpA X [a, b, c])) := by exact ps_par3 (by rfl) (by assumption) rfl rfl rfl (by decide) (by decide) (by decide) rfl rfl rfl pa_wp (by rfl) (by rfl)) : WS X Γ M (.Assign [.Tuple [.Name x px, .Name y py, .Name z pz] kt pt] (.Tuple [a, b, c] k2 pt2) pos :: sts) Ψ := ws_cons fun P σ H s m =>
  wpS_of hq ((h P σ H s m).mono fun vs H1 ⟨ds, M1, P1, ⟨d1, d2, d3, ed, q⟩, e1, m1, i1⟩ => by
    subst ed
    obtain ⟨v, r, rfl, hv, hr⟩ := i1.uncons
    obtain ⟨u, r2, rfl, hu, hr2⟩ := hr.uncons
    obtain ⟨u3, r3, rfl, hu3, hr3⟩ := hr2.uncons
    obtain rfl := hr3.unnil
    exact ⟨v, u, u3, rfl, _, M1, P1, q, e1, (((s.mono e1).set hv).set hu).set hu3, m1⟩)
end
/-! ### loops -/
section
variable {X : Cx} {Γ : Sl} {M : Mem} {tg it a b : Expr} {body sts : List Stmt} {Ψ : Po} {pos p pos2 : Pos}
theorem w1_forR1 (hp : PassesOwn (model X.prog X.w) X.A X.env X.xe) (hc : X.calm = true) (hg : Gl X "range") (hm : X.mg "range" = none)
    (h : WA X Γ M [a] fun ds M1 => ∃ (Iv : Nat → Sl → Mem → Prop) (n : Int), ds = [.int n] ∧ -(2 ^ 62) ≤ n ∧ n < 2 ^ 62 ∧ Iv 0 Γ M1 ∧ (∀ (i : Nat) Γ' M', (i : Int) < n → Iv i Γ' M' → GD X Γ' M' tg (.int (i : Int)) fun Γ2 M2 => WS X Γ2 M2 body { Ψ with nx := Iv (i + 1), ct := Iv (i + 1), bk := Ψ.nx }) ∧ ∀ Γ' M', Iv n.toNat Γ' M' → Ψ.nx Γ' M')
    (hs : starEach [a] X.env = [(false, eval a X.env)] := by rfl) (hf : ∀ x, foldedSetIterable (.Call (.Name "range" p) [a] [] pos2) X.env x = pure x := by intro _; rfl) : W1 X Γ M (.For tg (.Call (.Name "range" p) [a] [] pos2) body [] pos) Ψ := fun P σ H s m =>
  wpS_of (ps_for hp hc (pi_range1 hg hm pa_wp hs) pg_wp pss_wp hf) ((h P σ H s m).mono fun vs H1 ⟨ds, M1, P1, ⟨Iv, n, ed, h1, h2, hI, hstep, hdone⟩, e1, m1, i1⟩ => by
    subst ed
    obtain ⟨v, r, rfl, hv, hr⟩ := i1.uncons
    obtain rfl := hr.unnil
    cases hv
    refine ⟨n, rfl, h1, h2, for_range (lo := 0) (n := n.toNat) (fun i => FinS X.K P (Iv i)) ⟨Γ, M1, P1, hI, e1, s.mono e1, m1⟩ ?_ ?_⟩
    · rintro i σ' H' hi ⟨Γ', M', P', hI', e', s', m'⟩
      refine (hstep i Γ' M' (by omega) hI' P' σ' H' (.int (0 + (i : Int))) s' m' (by rw [Int.zero_add]; exact .int)).mono fun σ2 H2 ⟨Γ2, M2, P2, q, e2, s2, m2⟩ => (q P2 σ2 H2 s2 m2).mono ?_
      exact ⟨fun _ _ z => z.up (e'.trans e2), fun _ _ z => z.up (e'.trans e2), fun _ _ z => z.up (e'.trans e2), fun _ _ z => z.up (e'.trans e2)⟩
    · rintro σ' H' ⟨Γ', M', P', hI', e', s', m'⟩
      exact ⟨Γ', M', P', hdone Γ' M' hI', e', s', m'⟩)
theorem w1_forR2 (hp : PassesOwn (model X.prog X.w) X.A X.env X.xe) (hc : X.calm = true) (hg : Gl X "range") (hm : X.mg "range" = none)
    (h : WA X Γ M [a, b] fun ds M1 => ∃ (Iv : Nat → Sl → Mem → Prop) (lo n : Int), ds = [.int lo, .int n] ∧ (-(2 ^ 62) ≤ lo ∧ lo < 2 ^ 62 ∧ -(2 ^ 62) ≤ n ∧ n < 2 ^ 62) ∧ Iv 0 Γ M1 ∧ (∀ (i : Nat) Γ' M', lo + (i : Int) < n → Iv i Γ' M' → GD X Γ' M' tg (.int (lo + (i : Int))) fun Γ2 M2 => WS X Γ2 M2 body { Ψ with nx := Iv (i + 1), ct := Iv (i + 1), bk := Ψ.nx }) ∧ ∀ Γ' M', Iv (n - lo).toNat Γ' M' → Ψ.nx Γ' M')
    (hs : starEach [a, b] X.env = [(false, eval a X.env), (false, eval b X.env)] := by rfl) (hs2 : starEach [b] X.env = [(false, eval b X.env)] := by rfl) (hf : ∀ x, foldedSetIterable (.Call (.Name "range" p) [a, b] [] pos2) X.env x = pure x := by intro _; rfl) : W1 X Γ M (.For tg (.Call (.Name "range" p) [a, b] [] pos2) body [] pos) Ψ := fun P σ H s m =>
  wpS_of (ps_for hp hc (pi_range2 hg hm pa_wp hs hs2) pg_wp pss_wp hf) ((h P σ H s m).mono fun vs H1 ⟨ds, M1, P1, ⟨Iv, lo, n, ed, h1, hI, hstep, hdone⟩, e1, m1, i1⟩ => by
    subst ed
    obtain ⟨v, r, rfl, hv, hr⟩ := i1.uncons
    obtain ⟨v2, r2, rfl, hv2, hr2⟩ := hr.uncons
    obtain rfl := hr2.unnil
    cases hv
    cases hv2
    refine ⟨lo, n, rfl, h1, for_range (lo := lo) (n := (n - lo).toNat) (fun i => FinS X.K P (Iv i)) ⟨Γ, M1, P1, hI, e1, s.mono e1, m1⟩ ?_ ?_⟩
    · rintro i σ' H' hi ⟨Γ', M', P', hI', e', s', m'⟩
      refine (hstep i Γ' M' (by omega) hI' P' σ' H' (.int (lo + (i : Int))) s' m' .int).mono fun σ2 H2 ⟨Γ2, M2, P2, q, e2, s2, m2⟩ => (q P2 σ2 H2 s2 m2).mono ?_
      exact ⟨fun _ _ z => z.up (e'.trans e2), fun _ _ z => z.up (e'.trans e2), fun _ _ z => z.up (e'.trans e2), fun _ _ z => z.up (e'.trans e2)⟩
    · rintro σ' H' ⟨Γ', M', P', hI', e', s', m'⟩
      exact ⟨Γ', M', P', hdone Γ' M' hI', e', s', m'⟩)
/-- over a list, a tuple -/
theorem w1_forL (hp : PassesOwn (model X.prog X.w) X.A X.env X.xe) (hc : X.calm = true)
    (h : WE X Γ M it fun d M1 => ∃ (Iv : Nat → Sl → Mem → Prop) (xs : List D), d = .lst xs ∧ Iv 0 Γ M1 ∧ (∀ (i : Nat) (y : D) Γ' M', xs[i]? = some y → Iv i Γ' M' → GD X Γ' M' tg y fun Γ2 M2 => WS X Γ2 M2 body { Ψ with nx := Iv (i + 1), ct := Iv (i + 1), bk := Ψ.nx }) ∧ ∀ Γ' M', Iv xs.length Γ' M' → Ψ.nx Γ' M')
    (hf : ∀ x, foldedSetIterable it X.env x = pure x := by intro _; rfl) : W1 X Γ M (.For tg it body [] pos) Ψ := fun P σ H s m =>
  wpS_of (ps_for hp hc (pi_list pe_wp) pg_wp pss_wp hf) ((h P σ H s m).mono fun v H1 ⟨d, M1, P1, ⟨Iv, xs, ed, hI, hstep, hdone⟩, e1, m1, i1⟩ => by
    subst ed
    cases i1 with
    | @lst l vs _ hq hl hi =>
      refine ⟨l, rfl, ⟨vs, m1.ex.seq hq⟩, for_list (K := X.K) (a := l) (xs := vs) (fun i => FinS X.K P1 (Iv i)) ⟨Γ, M1, P1, hI, Same.refl P1, s.mono e1, m1⟩ (fun i σ' H' _ ⟨Γ', M', P', _, e', _, m'⟩ => m'.ex.seq (e'.seq hq)) ?_ ?_⟩
      · rintro i x σ' H' hx ⟨Γ', M', P', hI', e', s', m'⟩
        obtain ⟨y, hy, iy⟩ := IsDs.getV (K := X.K) (P := P1) ⟨hl, hi⟩ hx
        refine (hstep i y Γ' M' hy hI' P' σ' H' x s' m' (iy.mono e')).mono fun σ2 H2 ⟨Γ2, M2, P2, q, e2, s2, m2⟩ => (q P2 σ2 H2 s2 m2).mono ?_
        exact ⟨fun _ _ z => z.up (e'.trans e2), fun _ _ z => z.up (e1.trans (e'.trans e2)), fun _ _ z => z.up (e1.trans (e'.trans e2)), fun _ _ z => z.up (e'.trans e2)⟩
      · rintro σ' H' ⟨Γ', M', P', hI', e', s', m'⟩
        exact ⟨Γ', M', P', hdone Γ' M' (by rw [← hl]; exact hI'), e1.trans e', s', m'⟩)
theorem w1_forT (hp : PassesOwn (model X.prog X.w) X.A X.env X.xe) (hc : X.calm = true)
    (h : WE X Γ M it fun d M1 => ∃ (Iv : Nat → Sl → Mem → Prop) (xs : List D), d = .tup xs ∧ Iv 0 Γ M1 ∧ (∀ (i : Nat) (y : D) Γ' M', xs[i]? = some y → Iv i Γ' M' → GD X Γ' M' tg y fun Γ2 M2 => WS X Γ2 M2 body { Ψ with nx := Iv (i + 1), ct := Iv (i + 1), bk := Ψ.nx }) ∧ ∀ Γ' M', Iv xs.length Γ' M' → Ψ.nx Γ' M')
    (hf : ∀ x, foldedSetIterable it X.env x = pure x := by intro _; rfl) : W1 X Γ M (.For tg it body [] pos) Ψ := fun P σ H s m =>
  wpS_of (ps_for hp hc (pi_tup pe_wp) pg_wp pss_wp hf) ((h P σ H s m).mono fun v H1 ⟨d, M1, P1, ⟨Iv, xs, ed, hI, hstep, hdone⟩, e1, m1, i1⟩ => by
    subst ed
    cases i1 with
    | @tup l vs _ hq hl hi =>
      refine ⟨l, rfl, ⟨vs, Same.tupS m1.ex hq⟩, for_tup (K := X.K) (a := l) (xs := vs) (fun i => FinS X.K P1 (Iv i)) ⟨Γ, M1, P1, hI, Same.refl P1, s.mono e1, m1⟩ (fun i σ' H' _ ⟨Γ', M', P', _, e', _, m'⟩ => Same.tupS m'.ex (Same.tupS e' hq)) ?_ ?_⟩
      · rintro i x σ' H' hx ⟨Γ', M', P', hI', e', s', m'⟩
        obtain ⟨y, hy, iy⟩ := IsDs.getV (K := X.K) (P := P1) ⟨hl, hi⟩ hx
        refine (hstep i y Γ' M' hy hI' P' σ' H' x s' m' (iy.mono e')).mono fun σ2 H2 ⟨Γ2, M2, P2, q, e2, s2, m2⟩ => (q P2 σ2 H2 s2 m2).mono ?_
        exact ⟨fun _ _ z => z.up (e'.trans e2), fun _ _ z => z.up (e1.trans (e'.trans e2)), fun _ _ z => z.up (e1.trans (e'.trans e2)), fun _ _ z => z.up (e'.trans e2)⟩
      · rintro σ' H' ⟨Γ', M', P', hI', e', s', m'⟩
        exact ⟨Γ', M', P', hdone Γ' M' (by rw [← hl]; exact hI'), e1.trans e', s', m'⟩)
/-- while, by a word and a measure -/
theorem w1_while {c : Expr} (W : Nat → Sl → Mem → Prop) (hp : PassesOwn (model X.prog X.w) X.A X.env X.xe) (n0 : Nat) (h0 : W n0 Γ M)
    (hs : ∀ n Γ' M', W n Γ' M' → WT X Γ' M' c fun k M1 => (k = true → WS X Γ' M1 body { Ψ with nx := fun Γ2 M2 => ∃ n', n' < n ∧ W n' Γ2 M2, ct := fun Γ2 M2 => ∃ n', n' < n ∧ W n' Γ2 M2, bk := Ψ.nx }) ∧ (k = false → Ψ.nx Γ' M1)) : W1 X Γ M (.While c body [] pos) Ψ := fun P σ H s m =>
  wpS_of (ps_while hp pt_wp pss_wp) (show tWhile (wpB X c) (wpSs X body) (Ψ.ends X.K P) σ H from ⟨fun n => FinS X.K P (W n), ⟨n0, Γ, M, P, h0, Same.refl P, s, m⟩, fun n σ' H' ⟨Γ', M', P', hW, e', s', m'⟩ => (hs n Γ' M' hW P' σ' H' s' m').mono fun k H1 ⟨M1, P1, q, e1, m1⟩ => by
    cases k with
    | true =>
      refine iteT ⟨FinS X.K P fun Γ2 M2 => ∃ n', n' < n ∧ W n' Γ2 M2, fun σ2 H2 ⟨Γ2, M2, P2, ⟨n', hn, w2⟩, e2, s2, m2⟩ => ⟨n', hn, Γ2, M2, P2, w2, e2, s2, m2⟩, ?_⟩
      refine (q.1 rfl P1 σ' H1 (s'.mono e1) m1).mono ?_
      exact ⟨fun _ _ z => z.up (e'.trans e1), fun _ _ z => z.up (e'.trans e1), fun _ _ z => z.up (e'.trans e1), fun _ _ z => z.up (e'.trans e1)⟩
    | false => exact iteF ⟨Γ', M1, P1, q.2 rfl, e'.trans e1, s'.mono e1, m1⟩⟩)
end
end Dt

set_option Elab.async false
set_option linter.all false
set_option maxRecDepth 100000
set_option maxHeartbeats 2000000
/-! Dt, part 5: built-in functions, lists that grow, comprehensions, == of data. -/
namespace Dt
open PySem PySem.Spec PyProof.Rows L2
section
variable {X : Cx} {Γ : Sl} {M : Mem} {Φ : VP} {Ψ : Po} {e o a b : Expr} {es : List Expr} {pos p apos : Pos}
/-! ### calls of built-ins -/
theorem cd_of {f : Value} {xs : List D} {r : List V → Hp → VK → Prop} (hr : CallR X f r) (h : ∀ P H vs, MOk X.K M P H → IsDs X.K P vs xs → r vs H (Fin X.K P Φ)) : CaD X f xs M Φ := fun P H vs m i => caT_of hr (h P H vs m i)
theorem IsDs.un1 {K : PySem.W.Frag} {P : Hp} {vs : List V} {d : D} (h : IsDs K P vs [d]) : ∃ v, vs = [v] ∧ IsD K P v d := by
  obtain ⟨v, r, rfl, hv, hr⟩ := h.uncons
  obtain rfl := hr.unnil
  exact ⟨v, rfl, hv⟩
theorem IsDs.un2 {K : PySem.W.Frag} {P : Hp} {vs : List V} {d d2 : D} (h : IsDs K P vs [d, d2]) : ∃ v v2, vs = [v, v2] ∧ IsD K P v d ∧ IsD K P v2 d2 := by
  obtain ⟨v, r, rfl, hv, hr⟩ := h.uncons
  obtain ⟨v2, rfl, hv2⟩ := hr.un1
  exact ⟨v, v2, rfl, hv, hv2⟩
theorem cd_abs {i : Int} (q : Φ (.int (if i < 0 then -i else i)) M) : CaD X (.builtin "abs") [.int i] M Φ := cd_of call_abs fun P H vs m h => by
  obtain ⟨v, rfl, hv⟩ := h.un1
  cases hv
  exact ⟨i, rfl, .one q m .int⟩
theorem cd_int {i : Int} (q : Φ (.int i) M) : CaD X (.type "int") [.int i] M Φ := cd_of call_int1 fun P H vs m h => by
  obtain ⟨v, rfl, hv⟩ := h.un1
  cases hv
  exact .inl ⟨i, rfl, .one q m .int⟩
theorem cd_max {i j : Int} (hc : X.calm = true) (q : Φ (.int (if j > i then j else i)) M) : CaD X (.builtin "max") [.int i, .int j] M Φ := cd_of (call_max2 hc) fun P H vs m h => by
  obtain ⟨v, v2, rfl, hv, hv2⟩ := h.un2
  cases hv
  cases hv2
  exact ⟨i, j, rfl, .one q m .int⟩
theorem cd_min {i j : Int} (hc : X.calm = true) (q : Φ (.int (if j < i then j else i)) M) : CaD X (.builtin "min") [.int i, .int j] M Φ := cd_of (call_min2 hc) fun P H vs m h => by
  obtain ⟨v, v2, rfl, hv, hv2⟩ := h.un2
  cases hv
  cases hv2
  exact ⟨i, j, rfl, .one q m .int⟩
theorem cd_bool {b : Bool} (q : Φ (.bl b) M) : CaD X (.type "bool") [.bl b] M Φ := cd_of call_bool1 fun P H vs m h => by
  obtain ⟨v, rfl, hv⟩ := h.un1
  cases hv
  exact .inr ⟨b, rfl, .one q m .bl⟩
theorem cd_len_lst {ds : List D} (q : Φ (.int ds.length) M) : CaD X (.builtin "len") [.lst ds] M Φ := cd_of call_len fun P H vs m h => by
  obtain ⟨v, rfl, hv⟩ := h.un1
  cases hv with
  | lst hs hl hi => exact ⟨_, ds.length, rfl, .inl ⟨_, m.ex.seq hs, hl.symm⟩, .one q m .int⟩
theorem cd_len_tup {ds : List D} (q : Φ (.int ds.length) M) : CaD X (.builtin "len") [.tup ds] M Φ := cd_of call_len fun P H vs m h => by
  obtain ⟨v, rfl, hv⟩ := h.un1
  cases hv with
  | tup hs hl hi => exact ⟨_, ds.length, rfl, .inr ⟨_, Same.tupS m.ex hs, hl.symm⟩, .one q m .int⟩
theorem cd_len_own {l : Addr} {k : Nat} {ds : List D} (hk : M[k]? = some (l, .lst ds)) (q : Φ (.int ds.length) M) : CaD X (.builtin "len") [.adr l] M Φ := cd_of call_len fun P H vs m h => by
  obtain ⟨v, rfl, hv⟩ := h.un1
  cases hv
  obtain ⟨_, xs, h1, h2⟩ := m.get hk
  exact ⟨_, ds.length, rfl, .inl ⟨_, SqL.of h1, h2.1.symm⟩, .one q m .int⟩
theorem cd_len_str {x : Str} (hl : x.length ≤ sizeLine) (q : Φ (.int x.length) M) : CaD X (.builtin "len") [.str x] M Φ := cd_of call_len_str fun P H vs m h => by
  obtain ⟨v, rfl, hv⟩ := h.un1
  cases hv
  exact ⟨x, rfl, hl, .one q m .int⟩
theorem isDs_bls {K : PySem.W.Frag} {P : Hp} : ∀ {bs : List Bool} {vs : List V}, IsDs K P vs (bs.map D.bl) → vs = bs.map V.bl
  | [], vs, h => h.unnil
  | b :: bs, vs, h => by
    obtain ⟨v, r, rfl, hv, hr⟩ := IsDs.uncons h
    cases hv
    rw [isDs_bls hr]
    rfl
theorem isDs_ints {K : PySem.W.Frag} {P : Hp} : ∀ {bs : List Int} {vs : List V}, IsDs K P vs (bs.map D.int) → vs = bs.map V.int
  | [], vs, h => h.unnil
  | b :: bs, vs, h => by
    obtain ⟨v, r, rfl, hv, hr⟩ := IsDs.uncons h
    cases hv
    rw [isDs_ints hr]
    rfl
theorem cd_all {bs : List Bool} (hc : X.calm = true) (q : Φ (.bl (bs.all id)) M) : CaD X (.builtin "all") [.lst (bs.map D.bl)] M Φ := cd_of (cr_all hc) fun P H vs m h => by
  obtain ⟨v, rfl, hv⟩ := h.un1
  cases hv with
  | lst hs hl hi =>
    rw [isDs_bls ⟨hl, hi⟩] at hs
    exact ⟨_, bs, rfl, m.ex.seq hs, .one q m .bl⟩
theorem cd_any {bs : List Bool} (hc : X.calm = true) (q : Φ (.bl (bs.any id)) M) : CaD X (.builtin "any") [.lst (bs.map D.bl)] M Φ := cd_of (cr_any hc) fun P H vs m h => by
  obtain ⟨v, rfl, hv⟩ := h.un1
  cases hv with
  | lst hs hl hi =>
    rw [isDs_bls ⟨hl, hi⟩] at hs
    exact ⟨_, bs, rfl, m.ex.seq hs, .one q m .bl⟩
theorem cd_sum {ns : List Int} (hc : X.calm = true) (q : Φ (.int ns.sum) M) : CaD X (.builtin "sum") [.lst (ns.map D.int)] M Φ := cd_of (cr_sum hc) fun P H vs m h => by
  obtain ⟨v, rfl, hv⟩ := h.un1
  cases hv with
  | lst hs hl hi =>
    rw [isDs_ints ⟨hl, hi⟩] at hs
    exact ⟨_, ns, rfl, m.ex.seq hs, .one q m .int⟩
theorem cd_sorted {ns : List Int} (q : ∀ ns' : List Int, ns'.Perm ns → ns'.Pairwise (· ≤ ·) → Φ (.lst (ns'.map D.int)) M) : CaD X (.builtin "sorted") [.lst (ns.map D.int)] M Φ := cd_of cr_sortedI fun P H vs m h => by
  obtain ⟨v, rfl, hv⟩ := h.un1
  cases hv with
  | lst hs hl hi =>
    rw [isDs_ints ⟨hl, hi⟩] at hs
    refine ⟨_, ns, rfl, m.ex.seq hs, fun ns' p hp hs' hn => ?_⟩
    obtain ⟨m2, e2⟩ := m.push (o := .lst (ns'.map V.int)) hn
    exact ⟨_, M, _, q ns' hp hs', e2, m2, .lst (SqL.of upd_same) (IsDs.ints (K := X.K) (P := P) ns').1 (IsDs.ints ns').2⟩
/-- list(xs): a list of one's own -/
theorem cd_list {ds : List D} {d : D} (hd : d = .lst ds ∨ d = .tup ds ∨ ∃ (k : Nat) (l : Addr), d = .adr l ∧ M[k]? = some (l, .lst ds)) (q : ∀ l, Φ (.adr l) ((l, .lst ds) :: M)) : CaD X (.type "list") [d] M Φ := cd_of call_list_of fun P H vs m h => by
  obtain ⟨v, rfl, hv⟩ := h.un1
  rcases hd with rfl | rfl | ⟨k, l, rfl, hk⟩
  · cases hv with
    | lst hs hl hi => exact ⟨_, _, rfl, .inl (m.ex.seq hs), fun l hn => ⟨_, _, P, q l, Same.refl P, m.own hn ⟨_, upd_same, hl, hi⟩, .adr⟩⟩
  · cases hv with
    | tup hs hl hi => exact ⟨_, _, rfl, .inr (Same.tupS m.ex hs), fun l hn => ⟨_, _, P, q l, Same.refl P, m.own hn ⟨_, upd_same, hl, hi⟩, .adr⟩⟩
  · cases hv
    obtain ⟨_, xs, h1, h2⟩ := m.get hk
    exact ⟨_, _, rfl, .inl (SqL.of h1), fun l' hn => ⟨_, _, P, q l', Same.refl P, m.own hn ⟨_, upd_same, h2⟩, .adr⟩⟩
/-- tuple(xs) -/
theorem cd_tuple {ds : List D} {d : D} (hd : d = .lst ds ∨ d = .tup ds ∨ ∃ (k : Nat) (l : Addr), d = .adr l ∧ M[k]? = some (l, .lst ds)) (q : Φ (.tup ds) M) : CaD X (.type "tuple") [d] M Φ := cd_of call_tuple_of fun P H vs m h => by
  obtain ⟨v, rfl, hv⟩ := h.un1
  rcases hd with rfl | rfl | ⟨k, l, rfl, hk⟩
  · cases hv with
    | lst hs hl hi =>
      refine ⟨_, _, rfl, .inl ⟨m.ex.seq hs, fun l hn => ?_⟩⟩
      obtain ⟨m2, e2⟩ := m.push (o := .tup _) hn
      exact ⟨_, M, _, q, e2, m2, .tup (SqT.of upd_same) hl fun i x d a b => (hi i x d a b).mono e2⟩
  · cases hv with
    | tup hs hl hi => exact ⟨_, _, rfl, .inr ⟨Same.tupS m.ex hs, .one q m (.tup hs hl hi)⟩⟩
  · cases hv
    obtain ⟨_, xs, h1, h2⟩ := m.get hk
    refine ⟨_, _, rfl, .inl ⟨SqL.of h1, fun l' hn => ?_⟩⟩
    obtain ⟨m2, e2⟩ := m.push (o := .tup xs) hn
    exact ⟨_, M, _, q, e2, m2, .tup (SqT.of upd_same) h2.1 fun i x d a b => (h2.2 i x d a b).mono e2⟩
/-! ### isinstance -/
/-- what the type of a piece of data is -/
def tyD : D → Option String
  | .non => some "NoneType"
  | .bl _ => some "bool"
  | .int _ => some "int"
  | .str _ => some "str"
  | .tup _ => some "tuple"
  | .lst _ => some "list"
  | _ => none
theorem tyX_of {K : PySem.W.Frag} {P H : Hp} {v : V} {d : D} {t : String} (m : MOk K M P H) (i : IsD K P v d) (h : tyD d = some t) : TyX K H v (.type t) := by
  cases i with
  | non => cases h; exact .base .non
  | bl => cases h; exact .base (.bl _)
  | int => cases h; exact .base (.int _)
  | str => cases h; exact .base (.str _)
  | ty => cases h
  | tup hs hl hi =>
    cases h
    rcases hs with (h | ⟨ob, h⟩) | ⟨ob, its, n, h, hc, _⟩
    · exact .base (.tup (m.ex _ _ h))
    · exact .fTuple (m.ex _ _ h)
    · exact .kTuple h hc
  | lst hs hl hi =>
    cases h
    rcases hs with (h | ⟨ob, h⟩) | ⟨ob, its, n, h, hc, _⟩
    · exact .base (.lst (m.ex _ _ h))
    · exact .base (.frz (m.ex _ _ h))
    · exact .kList h hc
  | obj h hl hi => cases h
  | adr => cases h
  | dic h hl hi => cases h
theorem cd_isi {d : D} {t n : String} {k : Bool} (ht : tyD d = some t) (hk : kitB t n = some k) (q : Φ (.bl k) M) : CaD X (.builtin "isinstance") [d, .ty n] M Φ := cd_of call_isi fun P H vs m h => by
  obtain ⟨v, v2, rfl, hv, hv2⟩ := h.un2
  cases hv2
  exact ⟨v, .ty n, _, _, k, rfl, .ty n, tyX_of m hv ht, kit_ty hk, .one q m .bl⟩
/-! ### xs.append(e), xs.extend(ys) -/
theorem we_append (h : WE X Γ M o fun d M1 => ∃ (l : Addr) (k0 : Nat) (ds0 : List D), d = .adr l ∧ M1[k0]? = some (l, .lst ds0) ∧ WE X Γ M1 e fun y M2 => ∃ (k : Nat) (ds : List D), M2[k]? = some (l, .lst ds) ∧ ds.length < sizeLine ∧ Φ .non (M2.set k (l, .lst (ds ++ [y]))))
    (hq : PE X (.Call (.Attribute o "append" apos) [e] [] pos) (tBM X.K "list" rAppend (wpT X o) (wpA X [e])) := by exact pe_bm PySem.F.plainAttrs_list PySem.F.slot_list_append PySem.F.type_list_append mt_append pe_wp pa_wp)
    (hs : starEach [e] X.env = (false, eval e X.env) :: starEach [] X.env := by rfl) : WE X Γ M (.Call (.Attribute o "append" apos) [e] [] pos) Φ := fun P σ H s m =>
  wpT_of hq ((h P σ H s m).mono fun v H1 ⟨d, M1, P1, ⟨l, k0, ds0, ed, hk0, q⟩, e1, m1, i1⟩ => by
    subst ed
    cases i1
    have hA : WA X Γ M1 [e] fun ds' M2 => ∃ y, ds' = [y] ∧ ∃ (k : Nat) (ds : List D), M2[k]? = some (l, .lst ds) ∧ ds.length < sizeLine ∧ Φ .non (M2.set k (l, .lst (ds ++ [y]))) :=
      wa_cons (q.mono fun y M2 z => wa_nil ⟨y, rfl, z⟩) hs
    obtain ⟨_, xs0, h01, h02⟩ := m1.get hk0
    refine ⟨.inl ⟨rfl, xs0, SqL.of h01⟩, (hA P1 σ H1 (s.mono e1) m1).mono fun vs H2 ⟨ds', M2, P2, ⟨y, ey, k, ds, hk, hlen, q2⟩, e2, m2, i2⟩ => ?_⟩
    subst ey
    obtain ⟨u, rfl, hu⟩ := i2.un1
    obtain ⟨_, xs, h1, h2⟩ := m2.get hk
    exact ⟨l, xs, u, rfl, rfl, h1, by rw [h2.1]; exact hlen, .non, _, P2, q2, e1.trans e2, m2.put hk ⟨_, upd_same, h2.append (.cons hu .nil)⟩, .non⟩)
/-- the argument is a list of one's own, k2 its place -/
theorem we_extend (h : WE X Γ M o fun d M1 => ∃ (l : Addr) (k0 : Nat) (ds0 : List D), d = .adr l ∧ M1[k0]? = some (l, .lst ds0) ∧ WE X Γ M1 e fun y M2 => ∃ (k k2 : Nat) (l2 : Addr) (ds es' : List D), y = .adr l2 ∧ M2[k]? = some (l, .lst ds) ∧ M2[k2]? = some (l2, .lst es') ∧ ds.length + es'.length ≤ sizeLine ∧ Φ .non (M2.set k (l, .lst (ds ++ es'))))
    (hq : PE X (.Call (.Attribute o "extend" apos) [e] [] pos) (tBM X.K "list" rExtend (wpT X o) (wpA X [e])) := by exact pe_bm PySem.F.plainAttrs_list PySem.F.slot_list_extend PySem.F.type_list_extend mt_extend pe_wp pa_wp)
    (hs : starEach [e] X.env = (false, eval e X.env) :: starEach [] X.env := by rfl) : WE X Γ M (.Call (.Attribute o "extend" apos) [e] [] pos) Φ := fun P σ H s m =>
  wpT_of hq ((h P σ H s m).mono fun v H1 ⟨d, M1, P1, ⟨l, k0, ds0, ed, hk0, q⟩, e1, m1, i1⟩ => by
    subst ed
    cases i1
    have hA : WA X Γ M1 [e] fun ds' M2 => ∃ y, ds' = [y] ∧ ∃ (k k2 : Nat) (l2 : Addr) (ds es' : List D), y = .adr l2 ∧ M2[k]? = some (l, .lst ds) ∧ M2[k2]? = some (l2, .lst es') ∧ ds.length + es'.length ≤ sizeLine ∧ Φ .non (M2.set k (l, .lst (ds ++ es'))) :=
      wa_cons (q.mono fun y M2 z => wa_nil ⟨y, rfl, z⟩) hs
    obtain ⟨_, xs0, h01, h02⟩ := m1.get hk0
    refine ⟨.inl ⟨rfl, xs0, SqL.of h01⟩, (hA P1 σ H1 (s.mono e1) m1).mono fun vs H2 ⟨ds', M2, P2, ⟨y, ey, k, k2, l2, ds, es', ey2, hk, hk2, hlen, q2⟩, e2, m2, i2⟩ => ?_⟩
    subst ey ey2
    obtain ⟨u, rfl, hu⟩ := i2.un1
    cases hu
    obtain ⟨_, xs, h1, h2⟩ := m2.get hk
    obtain ⟨_, ys, h3, h4⟩ := m2.get hk2
    exact ⟨l, l2, xs, ys, rfl, rfl, h1, h3, by rw [h2.1, h4.1]; exact hlen, .non, _, P2, q2, e1.trans e2, m2.put hk ⟨_, upd_same, h2.append h4⟩, .non⟩)
/-- xs.pop() -/
theorem we_pop (h : WE X Γ M o fun d M1 => ∃ (l : Addr) (k : Nat) (ds : List D) (y : D), d = .adr l ∧ M1[k]? = some (l, .lst ds) ∧ ds[ds.length - 1]? = some y ∧ Φ y (M1.set k (l, .lst ds.dropLast)))
    (hq : PE X (.Call (.Attribute o "pop" apos) [] [] pos) (tBM0 X.K "list" rPop (wpT X o)) := by exact pe_bm0 PySem.F.plainAttrs_list PySem.F.slot_list_pop PySem.F.type_list_pop mt_pop pe_wp) : WE X Γ M (.Call (.Attribute o "pop" apos) [] [] pos) Φ := fun P σ H s m =>
  wpT_of hq ((h P σ H s m).mono fun v H1 ⟨d, M1, P1, ⟨l, k, ds, y, ed, hk, hy, q⟩, e1, m1, i1⟩ => by
    subst ed
    cases i1
    obtain ⟨_, xs, h1, h2⟩ := m1.get hk
    have hb : ds.length - 1 < ds.length := (List.getElem?_eq_some_iff.mp hy).1
    obtain ⟨u, hu, iu⟩ := h2.get hy
    refine ⟨.inl ⟨rfl, xs, SqL.of h1⟩, l, xs, u, rfl, rfl, h1, by rw [h2.1]; exact hu, y, _, P1, q, e1, m1.put hk ⟨_, upd_same, ?_⟩, iu⟩
    refine ⟨by rw [List.length_dropLast, List.length_dropLast, h2.1], fun i x d a b => ?_⟩
    rw [List.getElem?_dropLast] at a b
    split at a
    · split at b
      · exact h2.2 i x d a b
      · cases b
    · cases a)
end
/-! ### comprehensions -/
theorem wipe_get (σ : L2.St) (i : Nat) : ∀ vs : List Nat, (wipe σ vs)[i]? = if i ∈ vs ∧ i < σ.length then some none else σ[i]?
  | [] => by simp [wipe]
  | v :: vs => by
    have ih := wipe_get σ i vs
    have hl := wipe_length σ vs
    show ((wipe σ vs).set v none)[i]? = _
    by_cases hv : v = i
    · subst hv
      by_cases hb : v < σ.length
      · rw [List.getElem?_set_self (by rw [hl]; exact hb), if_pos ⟨List.mem_cons_self, hb⟩]
      · rw [if_neg (fun z => hb z.2), List.getElem?_eq_none (by rw [List.length_set, hl]; omega), List.getElem?_eq_none (by omega)]
    · rw [List.getElem?_set_ne hv, ih]
      have hm : (i ∈ v :: vs) ↔ i ∈ vs := by
        rw [List.mem_cons]
        exact ⟨fun z => z.elim (fun q => absurd q.symm hv) id, .inr⟩
      simp only [hm]
theorem wipe_set {σ : L2.St} {j : Nat} {x : Option V} {vs : List Nat} (h : j ∈ vs) : wipe (σ.set j x) vs = wipe σ vs := by
  refine List.ext_getElem? fun i => ?_
  rw [wipe_get, wipe_get, List.length_set]
  by_cases hi : i ∈ vs ∧ i < σ.length
  · rw [if_pos hi, if_pos hi]
  · rw [if_neg hi, if_neg hi]
    by_cases hj : j = i
    · subst hj
      rw [List.getElem?_eq_none (by rw [List.length_set]; exact Nat.le_of_not_lt fun z => hi ⟨h, z⟩), List.getElem?_eq_none (Nat.le_of_not_lt fun z => hi ⟨h, z⟩)]
    · rw [List.getElem?_set_ne hj]
theorem wipe_wipe (σ : L2.St) (vs : List Nat) : wipe (wipe σ vs) vs = wipe σ vs := by
  refine List.ext_getElem? fun i => ?_
  rw [wipe_get, wipe_get, wipe_length]
  by_cases hi : i ∈ vs ∧ i < σ.length
  · rw [if_pos hi, if_pos hi]
  · rw [if_neg hi]
def wipeD (Γ : Sl) : List Nat → Sl
  | [] => Γ
  | v :: vs => (wipeD Γ vs).set v none
theorem wipeD_length (Γ : Sl) : ∀ vs : List Nat, (wipeD Γ vs).length = Γ.length
  | [] => rfl
  | v :: vs => by unfold wipeD; rw [List.length_set, wipeD_length Γ vs]
theorem sok_wipe {K : PySem.W.Frag} {Γ : Sl} {P : Hp} {σ : L2.St} (h : SOk K Γ P σ) : ∀ vs : List Nat, SOk K (wipeD Γ vs) P (wipe σ vs)
  | [] => h
  | v :: vs => by
    have ih := sok_wipe h vs
    refine ⟨by rw [wipeD_length, wipe_length]; exact h.len, fun i d q => ?_⟩
    unfold wipeD at q
    unfold wipe
    by_cases hv : v = i
    · subst hv
      by_cases hb : v < (wipeD Γ vs).length
      · rw [List.getElem?_set_self hb] at q
        cases q
      · rw [List.getElem?_eq_none (by rw [List.length_set]; omega)] at q
        cases q
    · rw [List.getElem?_set_ne hv] at q
      rw [List.getElem?_set_ne hv]
      exact ih.at_ i d q
section
variable {X : Cx} {Γ : Sl} {M : Mem} {Φ : VP} {Ψ : Po} {elt tg iter : Expr} {ifs : List Expr} {scope : Scope} {own : List (Str × Nat)} {pos : Pos}
/-- the tests of a comprehension -/
def wpTs (X : Cx) (ifs : List Expr) : TT := fun σ H Q => ∀ pins s, Inv X pins σ H s → wpAny (model X.prog X.w) X.A (forIn ifs true fun c r => if r = true then do let ok ← isTrue c X.env (eval c X.env); pure (ForInStep.yield ok) else pure (ForInStep.yield r)) (TP X pins σ Q) X.xe s
theorem pts_wp {X : Cx} {ifs : List Expr} : PTs X ifs (wpTs X ifs) := ⟨fun pins s _ _ _ I h => h pins s I⟩
def WTs (X : Cx) (Γ : Sl) (M : Mem) (ifs : List Expr) (B : Bool → Mem → Prop) : Prop := ∀ P σ H, SOk X.K Γ P σ → MOk X.K M P H → wpTs X ifs σ H (FinB X.K P B)
theorem wts_nil {B : Bool → Mem → Prop} (h : B true M) : WTs X Γ M [] B := fun P σ H s m pins sh I => pts_nil.run pins sh σ H _ I (show FinB X.K P B true H from ⟨M, P, h, Same.refl P, m⟩)
theorem wts_one {B : Bool → Mem → Prop} {c : Expr} (h : WT X Γ M c B) : WTs X Γ M [c] B := fun P σ H s m pins sh I => (pts_one pt_wp).run pins sh σ H _ I (h P σ H s m)
/-- a block's context -/
abbrev blkOf (X : Cx) (scope : Scope) (s : Shared) (H : Hp) (C : Addr) (cl : List (Str × Addr)) (fp : List Addr) : Cx := X.blk s H scope (compEnvC scope cl C X.env) fp
/-- one turn of a comprehension: out is made so far (at l, ahead of the other objects of one's own) -/
def Turn1 (X : Cx) (scope : Scope) (ifs : List Expr) (elt : Expr) (J : List D → Mem → Prop) (Γ' : Sl) (l : Addr) (out : List D) (M' : Mem) : Prop := ∀ s H C cl fp,
  WTs (blkOf X scope s H C cl fp) Γ' ((l, .lst out) :: M') ifs fun k M1 => (k = true → ∀ s H C cl fp, WE (blkOf X scope s H C cl fp) Γ' M1 elt fun y M2 => ∃ M3, M2 = (l, .lst out) :: M3 ∧ out.length < sizeLine ∧ J (out ++ [y]) M3) ∧ (k = false → ∃ M3, M1 = (l, .lst out) :: M3 ∧ J out M3)
/-- what a turn leaves: l's list, the others -/
def LcInv (K : PySem.W.Frag) (P : Hp) (l : Addr) (J : List D → Mem → Prop) (H : Hp) : Prop := ∃ out M' P', J out M' ∧ Ex P P' ∧ MOk K ((l, .lst out) :: M') P' H
def tsB (X : Cx) (scope : Scope) (ifs : List Expr) : TT := fun σ H Q => ∀ s H0 C cl fp, wpTs (blkOf X scope s H0 C cl fp) ifs σ H Q
def teB (X : Cx) (scope : Scope) (elt : Expr) : TE := fun σ H Q => ∀ s H0 C cl fp, wpT (blkOf X scope s H0 C cl fp) elt σ H Q
theorem lc_turn {J : List D → Mem → Prop} {Γ' : Sl} {l : Addr} {out : List D} {M' : Mem} {P P' : Hp} {σ : L2.St} {H : Hp} (t : Turn1 X scope ifs elt J Γ' l out M') (e : Ex P P') (s : SOk X.K Γ' P' σ) (m : MOk X.K ((l, .lst out) :: M') P' H) :
    tsB X scope ifs σ H fun b H3 => if b = true then teB X scope elt σ H3 fun y H4 => ∃ acc, H4 l = some (.lst acc) ∧ acc.length < sizeLine ∧ LcInv X.K P l J (upd H4 l (.lst (acc ++ [y]))) else LcInv X.K P l J H3 := by
  intro s0 H0 C cl fp pins sh I
  refine thn (t s0 H0 C cl fp P' σ H s m pins sh I) fun b sh2 ⟨H2, I2, M1, P1, q, e1, m1⟩ => ⟨H2, I2, ?_⟩
  cases b with
  | false =>
    obtain ⟨M3, e3, j3⟩ := q.2 rfl
    subst e3
    exact iteF ⟨out, M3, P1, j3, e.trans e1, m1⟩
  | true =>
    refine iteT fun s0' H0' C' cl' fp' => ?_
    refine (q.1 rfl s0' H0' C' cl' fp' P1 σ H2 (s.mono e1) m1).mono fun v H4 ⟨d, M4, P4, ⟨M3, eM, hl, j4⟩, e4, m4, i4⟩ => ?_
    subst eM
    obtain ⟨_, xs, h1, h2⟩ := m4.at_ l _ List.mem_cons_self
    refine ⟨xs, h1, by rw [h2.1]; exact hl, out ++ [d], M3, P4, j4, (e.trans e1).trans e4, ?_⟩
    exact m4.put (k := 0) rfl ⟨_, upd_same, h2.append (.cons i4 .nil)⟩
/-- [elt for x in list if ..], a list of one's own; J: what holds by the turn -/
theorem we_lcL {x : Str} {px : Pos} {j : Nat} (hN : X.N.Nodup)
    (h : WE X Γ M iter fun d M1 => ∃ (J : Nat → List D → Mem → Prop) (xs : List D), d = .lst xs ∧ J 0 [] M1 ∧
      (∀ (i : Nat) (y : D) (l : Addr) (out : List D) (M' : Mem), xs[i]? = some y → J i out M' → Turn1 X scope ifs elt (J (i + 1)) ((wipeD Γ (own.map (·.2))).set j (some y)) l out M') ∧ ∀ l out M', J xs.length out M' → Φ (.adr l) ((l, .lst out) :: M'))
    (hj : j ∈ own.map (·.2)) (ok : BlkOk X.N X.env.scope scope own) (hc : X.calm = true)
    (hg : ∀ (s : Shared) (H : Hp) (C : Addr) (cl : List (Str × Addr)) (fp : List Addr), PG (X.blk s H scope (compEnvC scope cl C X.env) fp) (.Name x px) (gName j))
    (hs : ∀ x, foldedSetIterable iter X.env x = pure x) : WE X Γ M (.ListComp elt [⟨.Name x px, iter, ifs, 0⟩] scope pos) Φ := fun P σ H s m => by
  refine wpT_of (pe_lc (tt := tsB X scope ifs) (te := teB X scope elt) hc hN (pi_list pe_wp) ok hg (fun s0 H0 C cl fp => ⟨fun pins sh σ' H' Q I q => q s0 H0 C cl fp pins sh I⟩) (fun s0 H0 C cl fp => ⟨fun pins sh σ' H' Q I q => q s0 H0 C cl fp pins sh I⟩) hs) ?_
  refine (h P σ H s m).mono fun v H1 ⟨d, M1, P1, ⟨J, xs, hd, j0, hstep, hdone⟩, e1, m1, i1⟩ => ?_
  subst hd
  cases i1 with
  | @lst a vs _ hq hl hi =>
    refine ⟨a, rfl, ⟨vs, m1.ex.seq hq⟩, fun l hn => lc_list (xs := vs) (fun i => LcInv X.K P1 l (J i)) ⟨[], M1, P1, j0, Same.refl P1, m1.own hn ⟨[], upd_same, .nil⟩⟩ (fun i H' _ ⟨out, M', P', jj, e', m'⟩ => (m'.ex.seq (e'.seq hq))) ?_ ?_⟩
    · rintro i x0 H' hx ⟨out, M', P', jj, e', m'⟩
      obtain ⟨y, hy, iy⟩ := IsDs.getV (K := X.K) (P := P1) ⟨hl, hi⟩ hx
      refine ⟨by rw [wipe_set hj, wipe_wipe], ?_⟩
      exact lc_turn (hstep i y l out M' hy jj) e' ((sok_wipe (s.mono (e1.trans e')) (own.map (·.2))).set (iy.mono e')) m'
    · rintro H' ⟨out, M', P', jj, e', m'⟩
      exact ⟨_, _, P', hdone l out M' (by rw [← hl]; exact jj), e1.trans e', m', .adr⟩
/-- [elt for x in tuple if ..], a list of one's own; J: what holds by the turn -/
theorem we_lcT {x : Str} {px : Pos} {j : Nat} (hN : X.N.Nodup)
    (h : WE X Γ M iter fun d M1 => ∃ (J : Nat → List D → Mem → Prop) (xs : List D), d = .tup xs ∧ J 0 [] M1 ∧
      (∀ (i : Nat) (y : D) (l : Addr) (out : List D) (M' : Mem), xs[i]? = some y → J i out M' → Turn1 X scope ifs elt (J (i + 1)) ((wipeD Γ (own.map (·.2))).set j (some y)) l out M') ∧ ∀ l out M', J xs.length out M' → Φ (.adr l) ((l, .lst out) :: M'))
    (hj : j ∈ own.map (·.2)) (ok : BlkOk X.N X.env.scope scope own) (hc : X.calm = true)
    (hg : ∀ (s : Shared) (H : Hp) (C : Addr) (cl : List (Str × Addr)) (fp : List Addr), PG (X.blk s H scope (compEnvC scope cl C X.env) fp) (.Name x px) (gName j))
    (hs : ∀ x, foldedSetIterable iter X.env x = pure x) : WE X Γ M (.ListComp elt [⟨.Name x px, iter, ifs, 0⟩] scope pos) Φ := fun P σ H s m => by
  refine wpT_of (pe_lc (tt := tsB X scope ifs) (te := teB X scope elt) hc hN (pi_tup pe_wp) ok hg (fun s0 H0 C cl fp => ⟨fun pins sh σ' H' Q I q => q s0 H0 C cl fp pins sh I⟩) (fun s0 H0 C cl fp => ⟨fun pins sh σ' H' Q I q => q s0 H0 C cl fp pins sh I⟩) hs) ?_
  refine (h P σ H s m).mono fun v H1 ⟨d, M1, P1, ⟨J, xs, hd, j0, hstep, hdone⟩, e1, m1, i1⟩ => ?_
  subst hd
  cases i1 with
  | @tup a vs _ hq hl hi =>
    refine ⟨a, rfl, ⟨vs, Same.tupS m1.ex hq⟩, fun l hn => lc_tup (xs := vs) (fun i => LcInv X.K P1 l (J i)) ⟨[], M1, P1, j0, Same.refl P1, m1.own hn ⟨[], upd_same, .nil⟩⟩ (fun i H' _ ⟨out, M', P', jj, e', m'⟩ => (Same.tupS m'.ex (Same.tupS e' hq))) ?_ ?_⟩
    · rintro i x0 H' hx ⟨out, M', P', jj, e', m'⟩
      obtain ⟨y, hy, iy⟩ := IsDs.getV (K := X.K) (P := P1) ⟨hl, hi⟩ hx
      refine ⟨by rw [wipe_set hj, wipe_wipe], ?_⟩
      exact lc_turn (hstep i y l out M' hy jj) e' ((sok_wipe (s.mono (e1.trans e')) (own.map (·.2))).set (iy.mono e')) m'
    · rintro H' ⟨out, M', P', jj, e', m'⟩
      exact ⟨_, _, P', hdone l out M' (by rw [← hl]; exact jj), e1.trans e', m', .adr⟩
/-- [elt for x, y in list if ..] -/
theorem we_lcL2 {tgt : Expr} {j j2 : Nat} (hN : X.N.Nodup)
    (h : WE X Γ M iter fun d M1 => ∃ (J : Nat → List D → Mem → Prop) (xs : List D), d = .lst xs ∧ J 0 [] M1 ∧
      (∀ (i : Nat) (y : D) (l : Addr) (out : List D) (M' : Mem), xs[i]? = some y → J i out M' → ∃ y1 y2, y = .tup [y1, y2] ∧ Turn1 X scope ifs elt (J (i + 1)) (((wipeD Γ (own.map (·.2))).set j (some y1)).set j2 (some y2)) l out M') ∧ ∀ l out M', J xs.length out M' → Φ (.adr l) ((l, .lst out) :: M'))
    (hj : j ∈ own.map (·.2)) (hj2 : j2 ∈ own.map (·.2)) (ok : BlkOk X.N X.env.scope scope own) (hc : X.calm = true)
    (hg : ∀ (s : Shared) (H : Hp) (C : Addr) (cl : List (Str × Addr)) (fp : List Addr), PG (X.blk s H scope (compEnvC scope cl C X.env) fp) tgt (gTup X.K 2 (gCons (gName j) (gCons (gName j2) gNil))))
    (hs : ∀ x, foldedSetIterable iter X.env x = pure x) : WE X Γ M (.ListComp elt [⟨tgt, iter, ifs, 0⟩] scope pos) Φ := fun P σ H s m => by
  refine wpT_of (pe_lc (tt := tsB X scope ifs) (te := teB X scope elt) hc hN (pi_list pe_wp) ok hg (fun s0 H0 C cl fp => ⟨fun pins sh σ' H' Q I q => q s0 H0 C cl fp pins sh I⟩) (fun s0 H0 C cl fp => ⟨fun pins sh σ' H' Q I q => q s0 H0 C cl fp pins sh I⟩) hs) ?_
  refine (h P σ H s m).mono fun v H1 ⟨d, M1, P1, ⟨J, xs, hd, j0, hstep, hdone⟩, e1, m1, i1⟩ => ?_
  subst hd
  cases i1 with
  | @lst a vs _ hq hl hi =>
    refine ⟨a, rfl, ⟨vs, m1.ex.seq hq⟩, fun l hn => lc_list (xs := vs) (fun i => LcInv X.K P1 l (J i)) ⟨[], M1, P1, j0, Same.refl P1, m1.own hn ⟨[], upd_same, .nil⟩⟩ (fun i H' _ ⟨out, M', P', jj, e', m'⟩ => (m'.ex.seq (e'.seq hq))) ?_ ?_⟩
    · rintro i x0 H' hx ⟨out, M', P', jj, e', m'⟩
      obtain ⟨y, hy, iy⟩ := IsDs.getV (K := X.K) (P := P1) ⟨hl, hi⟩ hx
      obtain ⟨y1, y2, ey, ht⟩ := hstep i y l out M' hy jj
      subst ey
      cases iy with
      | tup hs2 hl2 hi2 =>
        obtain ⟨u1, u2, eu, hu1, hu2⟩ := IsDs.un2 (K := X.K) (P := P1) ⟨hl2, hi2⟩
        subst eu
        refine ⟨_, _, rfl, Same.tupS m'.ex (Same.tupS e' hs2), rfl, u1, [u2], rfl, u2, [], rfl, rfl, ?_⟩
        refine ⟨by rw [wipe_set hj2, wipe_set hj, wipe_wipe], ?_⟩
        exact lc_turn ht e' (((sok_wipe (s.mono (e1.trans e')) (own.map (·.2))).set (hu1.mono e')).set (hu2.mono e')) m'
    · rintro H' ⟨out, M', P', jj, e', m'⟩
      exact ⟨_, _, P', hdone l out M' (by rw [← hl]; exact jj), e1.trans e', m', .adr⟩
/-- [elt for x, y in tuple if ..] -/
theorem we_lcT2 {tgt : Expr} {j j2 : Nat} (hN : X.N.Nodup)
    (h : WE X Γ M iter fun d M1 => ∃ (J : Nat → List D → Mem → Prop) (xs : List D), d = .tup xs ∧ J 0 [] M1 ∧
      (∀ (i : Nat) (y : D) (l : Addr) (out : List D) (M' : Mem), xs[i]? = some y → J i out M' → ∃ y1 y2, y = .tup [y1, y2] ∧ Turn1 X scope ifs elt (J (i + 1)) (((wipeD Γ (own.map (·.2))).set j (some y1)).set j2 (some y2)) l out M') ∧ ∀ l out M', J xs.length out M' → Φ (.adr l) ((l, .lst out) :: M'))
    (hj : j ∈ own.map (·.2)) (hj2 : j2 ∈ own.map (·.2)) (ok : BlkOk X.N X.env.scope scope own) (hc : X.calm = true)
    (hg : ∀ (s : Shared) (H : Hp) (C : Addr) (cl : List (Str × Addr)) (fp : List Addr), PG (X.blk s H scope (compEnvC scope cl C X.env) fp) tgt (gTup X.K 2 (gCons (gName j) (gCons (gName j2) gNil))))
    (hs : ∀ x, foldedSetIterable iter X.env x = pure x) : WE X Γ M (.ListComp elt [⟨tgt, iter, ifs, 0⟩] scope pos) Φ := fun P σ H s m => by
  refine wpT_of (pe_lc (tt := tsB X scope ifs) (te := teB X scope elt) hc hN (pi_tup pe_wp) ok hg (fun s0 H0 C cl fp => ⟨fun pins sh σ' H' Q I q => q s0 H0 C cl fp pins sh I⟩) (fun s0 H0 C cl fp => ⟨fun pins sh σ' H' Q I q => q s0 H0 C cl fp pins sh I⟩) hs) ?_
  refine (h P σ H s m).mono fun v H1 ⟨d, M1, P1, ⟨J, xs, hd, j0, hstep, hdone⟩, e1, m1, i1⟩ => ?_
  subst hd
  cases i1 with
  | @tup a vs _ hq hl hi =>
    refine ⟨a, rfl, ⟨vs, Same.tupS m1.ex hq⟩, fun l hn => lc_tup (xs := vs) (fun i => LcInv X.K P1 l (J i)) ⟨[], M1, P1, j0, Same.refl P1, m1.own hn ⟨[], upd_same, .nil⟩⟩ (fun i H' _ ⟨out, M', P', jj, e', m'⟩ => (Same.tupS m'.ex (Same.tupS e' hq))) ?_ ?_⟩
    · rintro i x0 H' hx ⟨out, M', P', jj, e', m'⟩
      obtain ⟨y, hy, iy⟩ := IsDs.getV (K := X.K) (P := P1) ⟨hl, hi⟩ hx
      obtain ⟨y1, y2, ey, ht⟩ := hstep i y l out M' hy jj
      subst ey
      cases iy with
      | tup hs2 hl2 hi2 =>
        obtain ⟨u1, u2, eu, hu1, hu2⟩ := IsDs.un2 (K := X.K) (P := P1) ⟨hl2, hi2⟩
        subst eu
        refine ⟨_, _, rfl, Same.tupS m'.ex (Same.tupS e' hs2), rfl, u1, [u2], rfl, u2, [], rfl, rfl, ?_⟩
        refine ⟨by rw [wipe_set hj2, wipe_set hj, wipe_wipe], ?_⟩
        exact lc_turn ht e' (((sok_wipe (s.mono (e1.trans e')) (own.map (·.2))).set (hu1.mono e')).set (hu2.mono e')) m'
    · rintro H' ⟨out, M', P', jj, e', m'⟩
      exact ⟨_, _, P', hdone l out M' (by rw [← hl]; exact jj), e1.trans e', m', .adr⟩
/-- [elt for x in range(a) if ..]; range(a, b) -/
theorem we_lcR1 {x : Str} {px p pos2 : Pos} {j : Nat} {a : Expr} (hN : X.N.Nodup) (hg0 : Gl X "range") (hm : X.mg "range" = none)
    (h : WA X Γ M [a] fun ds M1 => ∃ (J : Nat → List D → Mem → Prop) (n : Int), ds = [.int n] ∧ -(2 ^ 62) ≤ n ∧ n < 2 ^ 62 ∧ J 0 [] M1 ∧
      (∀ (i : Nat) (l : Addr) (out : List D) (M' : Mem), (i : Int) < n → J i out M' → Turn1 X scope ifs elt (J (i + 1)) ((wipeD Γ (own.map (·.2))).set j (some (.int (i : Int)))) l out M') ∧ ∀ l out M', J n.toNat out M' → Φ (.adr l) ((l, .lst out) :: M'))
    (hj : j ∈ own.map (·.2)) (ok : BlkOk X.N X.env.scope scope own) (hc : X.calm = true)
    (hg : ∀ (s : Shared) (H : Hp) (C : Addr) (cl : List (Str × Addr)) (fp : List Addr), PG (X.blk s H scope (compEnvC scope cl C X.env) fp) (.Name x px) (gName j))
    (hs : ∀ x, foldedSetIterable (.Call (.Name "range" p) [a] [] pos2) X.env x = pure x) (hst : starEach [a] X.env = [(false, eval a X.env)] := by rfl) : WE X Γ M (.ListComp elt [⟨.Name x px, .Call (.Name "range" p) [a] [] pos2, ifs, 0⟩] scope pos) Φ := fun P σ H s m => by
  refine wpT_of (pe_lc (tt := tsB X scope ifs) (te := teB X scope elt) hc hN (pi_range1 hg0 hm pa_wp hst) ok hg (fun s0 H0 C cl fp => ⟨fun pins sh σ' H' Q I q => q s0 H0 C cl fp pins sh I⟩) (fun s0 H0 C cl fp => ⟨fun pins sh σ' H' Q I q => q s0 H0 C cl fp pins sh I⟩) hs) ?_
  refine (h P σ H s m).mono fun vs H1 ⟨ds, M1, P1, ⟨J, n, hd, hb1, hb2, j0, hstep, hdone⟩, e1, m1, i1⟩ => ?_
  subst hd
  obtain ⟨v, rfl, hv⟩ := i1.un1
  cases hv
  refine ⟨n, rfl, hb1, hb2, fun l hn => lc_range (lo := 0) (n := n.toNat) (fun i => LcInv X.K P1 l (J i)) ⟨[], M1, P1, j0, Same.refl P1, m1.own hn ⟨[], upd_same, .nil⟩⟩ ?_ ?_⟩
  · rintro i H' hi ⟨out, M', P', jj, e', m'⟩
    refine ⟨by rw [wipe_set hj, wipe_wipe], ?_⟩
    refine lc_turn (hstep i l out M' (by omega) jj) e' ((sok_wipe (s.mono (e1.trans e')) (own.map (·.2))).set ?_) m'
    rw [Int.zero_add]
    exact .int
  · rintro H' ⟨out, M', P', jj, e', m'⟩
    exact ⟨_, _, P', hdone l out M' jj, e1.trans e', m', .adr⟩
theorem we_lcR2 {x : Str} {px p pos2 : Pos} {j : Nat} {a b : Expr} (hN : X.N.Nodup) (hg0 : Gl X "range") (hm : X.mg "range" = none)
    (h : WA X Γ M [a, b] fun ds M1 => ∃ (J : Nat → List D → Mem → Prop) (lo n : Int), ds = [.int lo, .int n] ∧ (-(2 ^ 62) ≤ lo ∧ lo < 2 ^ 62 ∧ -(2 ^ 62) ≤ n ∧ n < 2 ^ 62) ∧ J 0 [] M1 ∧
      (∀ (i : Nat) (l : Addr) (out : List D) (M' : Mem), lo + (i : Int) < n → J i out M' → Turn1 X scope ifs elt (J (i + 1)) ((wipeD Γ (own.map (·.2))).set j (some (.int (lo + (i : Int))))) l out M') ∧ ∀ l out M', J (n - lo).toNat out M' → Φ (.adr l) ((l, .lst out) :: M'))
    (hj : j ∈ own.map (·.2)) (ok : BlkOk X.N X.env.scope scope own) (hc : X.calm = true)
    (hg : ∀ (s : Shared) (H : Hp) (C : Addr) (cl : List (Str × Addr)) (fp : List Addr), PG (X.blk s H scope (compEnvC scope cl C X.env) fp) (.Name x px) (gName j))
    (hs : ∀ x, foldedSetIterable (.Call (.Name "range" p) [a, b] [] pos2) X.env x = pure x) (hst : starEach [a, b] X.env = [(false, eval a X.env), (false, eval b X.env)] := by rfl) (hst2 : starEach [b] X.env = [(false, eval b X.env)] := by rfl) : WE X Γ M (.ListComp elt [⟨.Name x px, .Call (.Name "range" p) [a, b] [] pos2, ifs, 0⟩] scope pos) Φ := fun P σ H s m => by
  refine wpT_of (pe_lc (tt := tsB X scope ifs) (te := teB X scope elt) hc hN (pi_range2 hg0 hm pa_wp hst hst2) ok hg (fun s0 H0 C cl fp => ⟨fun pins sh σ' H' Q I q => q s0 H0 C cl fp pins sh I⟩) (fun s0 H0 C cl fp => ⟨fun pins sh σ' H' Q I q => q s0 H0 C cl fp pins sh I⟩) hs) ?_
  refine (h P σ H s m).mono fun vs H1 ⟨ds, M1, P1, ⟨J, lo, n, hd, hb, j0, hstep, hdone⟩, e1, m1, i1⟩ => ?_
  subst hd
  obtain ⟨v, v2, rfl, hv, hv2⟩ := i1.un2
  cases hv
  cases hv2
  refine ⟨lo, n, rfl, hb, fun l hn => lc_range (lo := lo) (n := (n - lo).toNat) (fun i => LcInv X.K P1 l (J i)) ⟨[], M1, P1, j0, Same.refl P1, m1.own hn ⟨[], upd_same, .nil⟩⟩ ?_ ?_⟩
  · rintro i H' hi ⟨out, M', P', jj, e', m'⟩
    refine ⟨by rw [wipe_set hj, wipe_wipe], ?_⟩
    exact lc_turn (hstep i l out M' (by omega) jj) e' ((sok_wipe (s.mono (e1.trans e')) (own.map (·.2))).set .int) m'
  · rintro H' ⟨out, M', P', jj, e', m'⟩
    exact ⟨_, _, P', hdone l out M' jj, e1.trans e', m', .adr⟩
/-- a list of one's own that an expression leaves changes no more -/
theorem we_frz {e : Expr} (h : WE X Γ M e fun d M2 => ∃ l ds M3, d = .adr l ∧ M2 = (l, .lst ds) :: M3 ∧ Φ (.lst ds) M3) : WE X Γ M e Φ := fun P σ H s m =>
  (h P σ H s m).mono fun v H2 ⟨d, M2, P2, ⟨l, ds, M3, ed, eM, q⟩, e2, m2, i2⟩ => by
    subst ed eM
    cases i2
    obtain ⟨P4, e4, m4, i4⟩ := frz_lst m2
    exact ⟨_, M3, P4, q, e2.trans e4, m4, i4⟩
end
end Dt

set_option Elab.async false
set_option linter.all false
set_option maxRecDepth 100000
set_option maxHeartbeats 2000000
/-! Dt, part 6: == of data, operators of own classes, enumerate of a tuple, zip. -/
namespace Dt
open PySem PySem.Spec PyProof.Rows L2
/-! ### data as PyData -/
mutual
def py : D → PyData
  | .non => .none
  | .bl b => .bool b
  | .int i => .int i
  | .str x => .str x
  | .tup xs => .tuple (pys xs)
  | .lst xs => .list (pys xs)
  | .ty _ => .none
  | .obj _ _ => .none
  | .adr _ => .none
  | .dic _ => .none
def pys : List D → List PyData
  | [] => []
  | x :: xs => py x :: pys xs
end
mutual
def okD : D → Bool
  | .non => true
  | .bl _ => true
  | .int _ => true
  | .str _ => true
  | .tup xs => okDs xs
  | .lst xs => okDs xs
  | .ty _ => false
  | .obj _ _ => false
  | .adr _ => false
  | .dic _ => false
def okDs : List D → Bool
  | [] => true
  | x :: xs => okD x && okDs xs
end
section
variable {K : PySem.W.Frag} {P H : Hp}
mutual
theorem dp_of (e : Ex P H) : ∀ (d : D) (v : V), okD d = true → IsD K P v d → Dp K H v (py d)
  | .non, _, _, h => by cases h; exact .non
  | .bl b, _, _, h => by cases h; exact .bl b
  | .int i, _, _, h => by cases h; exact .int i
  | .str x, _, _, h => by cases h; exact .str x
  | .tup xs, _, o, h => by
    cases h with
    | tup hs hl hi => exact .tup (Same.tupS e hs) (dps_of e xs _ o ⟨hl, hi⟩)
  | .lst xs, _, o, h => by
    cases h with
    | lst hs hl hi => exact .lst (e.seq hs) (dps_of e xs _ o ⟨hl, hi⟩)
  | .ty _, _, o, _ => by cases o
  | .obj _ _, _, o, _ => by cases o
  | .adr _, _, o, _ => by cases o
  | .dic _, _, o, _ => by cases o
theorem dps_of (e : Ex P H) : ∀ (ds : List D) (vs : List V), okDs ds = true → IsDs K P vs ds → DpAll K H vs (pys ds)
  | [], _, _, h => by
    rw [h.unnil]
    exact .nil
  | d :: ds, vs, o, h => by
    obtain ⟨v, r, rfl, hv, hr⟩ := h.uncons
    have o2 : (okD d && okDs ds) = true := o
    obtain ⟨o3, o4⟩ := Bool.and_eq_true_iff.mp o2
    exact .cons (dp_of e d v o3 hv) (dps_of e ds r o4 hr)
end
end
/-- data that == takes -/
def shp (d : D) : Bool := okD d && SeqAt.shaped (py d)
/-- what d stands for, by the objects of one's own -/
def SeenD (M : Mem) (d e : D) : Prop := d = e ∨ ∃ (k : Nat) (l : Addr) (ds : List D), d = .adr l ∧ M[k]? = some (l, .lst ds) ∧ e = .lst ds
section
variable {X : Cx} {Γ : Sl} {M : Mem} {Φ : VP} {x y : D}
theorem SeenD.dp {K : PySem.W.Frag} {P H : Hp} {d e : D} {v : V} (h : SeenD M d e) (m : MOk K M P H) (i : IsD K P v d) (o : okD e = true) : Dp K H v (py e) := by
  rcases h with rfl | ⟨k, l, ds, rfl, hk, rfl⟩
  · exact dp_of m.ex _ _ o i
  · cases i
    obtain ⟨_, xs, h1, h2⟩ := m.get hk
    exact .lst (SqL.of h1) (dps_of m.ex ds xs o h2)
theorem od_eqD {x' y' : D} (hu : X.A.units + 64 < cLine) (sx : SeenD M x x') (sy : SeenD M y y') (hx : shp x' = true) (hy : shp y' = true) (q : Φ (.bl (PyData.eqv (py x') (py y'))) M) : OpD X (compareOp .Eq) x y M Φ := fun P H a b m ia ib => by
  obtain ⟨h1, h2⟩ := Bool.and_eq_true_iff.mp hx
  obtain ⟨h3, h4⟩ := Bool.and_eq_true_iff.mp hy
  exact opT_of (op_eqD hu) ⟨_, _, sx.dp m ia h1, sy.dp m ib h3, h2, h4, .one q m .bl⟩
theorem od_neD {x' y' : D} (hu : X.A.units + 64 < cLine) (sx : SeenD M x x') (sy : SeenD M y y') (hx : shp x' = true) (hy : shp y' = true) (q : Φ (.bl (!PyData.eqv (py x') (py y'))) M) : OpD X (compareOp .NotEq) x y M Φ := fun P H a b m ia ib => by
  obtain ⟨h1, h2⟩ := Bool.and_eq_true_iff.mp hx
  obtain ⟨h3, h4⟩ := Bool.and_eq_true_iff.mp hy
  exact opT_of (op_neD hu) ⟨_, _, sx.dp m ia h1, sy.dp m ib h3, h2, h4, .one q m .bl⟩
end
/-! ### operators of own classes -/
section
variable {X : Cx} {Γ : Sl} {M : Mem} {Φ : VP} {x y d : D} {k : Nat} {C : Addr} {fs : List (Str × D)} {S : DS}
/-- the method runs -/
theorem run_me {f : Addr} {fd : FuncData} {ps : List Str} {P H : Hp} {vs : List V} {us : List Value} {ds : List D} {pins : List (Addr × Obj)} {σ : L2.St} {s : Shared} (F : FnOk X.prog X.w X.K X.mg X.base CX0 k f fd ps (spOf X.K S)) (hr : Room k X.A) (hb : Binds X.K fd ps []) (I : Inv X pins σ H s) (r : Vals vs us) (i : IsDs X.K P vs ds) (m : MOk X.K M P H) (h : S ds M Φ) :
    wpAny (model X.prog X.w) X.A (call (.ref f) us) (EP X pins σ (Fin X.K P Φ)) X.xe s := run_fn F hr hb .nil pass0 I r (sp_of i m h)
theorem inst_of {P H : Hp} {v : V} {pins : List (Addr × Obj)} {σ : L2.St} {s : Shared} {u : Value} (ho : ObjD M d C fs) (m : MOk X.K M P H) (i : IsD X.K P v d) (I : Inv X pins σ H s) (r : RelV v u) : ∃ a dx od, v = .ref a ∧ u = .ref a ∧ PySem.W.InstAt s.heap a (PySem.W.instObj C dx) C (some od) := by
  obtain ⟨a, dx, xs, rfl, ha, hx⟩ := ho.at_ m i
  cases r
  obtain ⟨mA, O, _⟩ := ins_get I.hok ha
  obtain ⟨od, J, _⟩ := O.look
  exact ⟨a, dx, od, rfl, rfl, J⟩
/-- if o, not o: by __bool__ -/
theorem tr_own {B : Bool → Mem → Prop} (F : HasMe X.prog X.w X.K X.mg X.base k C "__bool__" S) (hr : Room k X.A) (ho : ObjD M d C fs) (h : S [d] M fun r M1 => ∃ b, r = .bl b ∧ B b M1) : TrD X d M B := fun P H v m i pins σ s u I r => by
  obtain ⟨f, fd, ps, F1, hm, hb⟩ := F
  obtain ⟨a, dx, od, rfl, rfl, J⟩ := inst_of ho m i I r
  obtain ⟨mm, Fr1⟩ := I.fr
  refine PySem.W.truthy_K Fr1 I.ok.mod.kin J hm.at_ hm.fn (thn (run_me (vs := [.ref a]) F1 hr hb I (.cons rfl .nil) (.cons i .nil) m h) fun u2 s2 ⟨v2, H2, I2, r2, d2, M2, P2, ⟨b, eb, q⟩, e2, m2, i2⟩ => ?_)
  subst eb
  cases i2
  cases r2
  exact ⟨H2, I2, M2, P2, q, e2, m2⟩
/-- v in o: by __contains__ -/
theorem od_in (F : HasMe X.prog X.w X.K X.mg X.base k C "__contains__" S) (hr : Room k X.A) (ho : ObjD M y C fs) (h : S [y, x] M fun r M1 => ∃ b, r = .bl b ∧ Φ (.bl b) M1) : OpD X (compareOp .In) x y M Φ := fun P H a b m ia ib pins σ s u w I r1 r2 => by
  obtain ⟨f, fd, ps, F1, hm, hb⟩ := F
  obtain ⟨a2, dx, od, rfl, rfl, J⟩ := inst_of ho m ib I r2
  obtain ⟨mm, Fr1⟩ := I.fr
  refine PySem.W.in_K Fr1 I.ok.mod.kin J hm.at_ hm.fn (thn (run_me (vs := [.ref a2, a]) F1 hr hb I (.cons rfl (.cons r1 .nil)) (.cons ib (.cons ia .nil)) m h) fun u2 s2 ⟨v2, H2, I2, rv2, d2, M2, P2, ⟨b, eb, q⟩, e2, m2, i2⟩ => ?_)
  subst eb
  cases i2
  cases rv2
  exact wpAny_truthy_bool ⟨.bl b, H2, I2, rfl, _, M2, P2, q, e2, m2, .bl⟩
theorem od_notIn (F : HasMe X.prog X.w X.K X.mg X.base k C "__contains__" S) (hr : Room k X.A) (ho : ObjD M y C fs) (h : S [y, x] M fun r M1 => ∃ b, r = .bl b ∧ Φ (.bl (!b)) M1) : OpD X (compareOp .NotIn) x y M Φ := fun P H a b m ia ib pins σ s u w I r1 r2 => by
  obtain ⟨f, fd, ps, F1, hm, hb⟩ := F
  obtain ⟨a2, dx, od, rfl, rfl, J⟩ := inst_of ho m ib I r2
  obtain ⟨mm, Fr1⟩ := I.fr
  refine PySem.W.notIn_K Fr1 I.ok.mod.kin J hm.at_ hm.fn (thn (run_me (vs := [.ref a2, a]) F1 hr hb I (.cons rfl (.cons r1 .nil)) (.cons ib (.cons ia .nil)) m h) fun u2 s2 ⟨v2, H2, I2, rv2, d2, M2, P2, ⟨b, eb, q⟩, e2, m2, i2⟩ => ?_)
  subst eb
  cases i2
  cases rv2
  exact wpAny_truthy_bool ⟨.bl (!b), H2, I2, rfl, _, M2, P2, q, e2, m2, .bl⟩
/-- a <= b and its like, both of one class, by the class's own def -/
theorem od_own {op : CmpOp} {gs : List (Str × D)} {nm : Str} (F : HasMe X.prog X.w X.K X.mg X.base k C nm S) (hnm : (cmpInfo op).2.1 = nm) (hop : ∀ u w, compareOp op u w = richCompare op u w) (hr : Room k X.A) (ho : ObjD M x C fs) (ho2 : ObjD M y C gs) (h : S [x, y] M Φ) : OpD X (compareOp op) x y M Φ := fun P H a b m ia ib pins σ s u w I r1 r2 => by
  obtain ⟨f, fd, ps, F1, hm, hb⟩ := F
  obtain ⟨a1, dx, od, rfl, rfl, J⟩ := inst_of ho m ia I r1
  obtain ⟨a2, dx2, od2, rfl, rfl, J2⟩ := inst_of ho2 m ib I r2
  obtain ⟨mm, Fr1⟩ := I.fr
  rw [hop]
  refine PySem.W.cmp_K hr.units0 Fr1 I.ok.mod.kin J J2.type (by unfold PySem.W.notFirst; rw [beq_self_eq_true]; exact Bool.true_or _) (by rw [hnm]; exact hm.at_) hm.fn (thn (run_me (vs := [.ref a1, .ref a2]) F1 hr hb I (.cons rfl (.cons rfl .nil)) (.cons ia (.cons ib .nil)) m h) fun u2 s2 ⟨v2, H2, I2, rv2, z⟩ => ?_)
  exact SlX.cmpback rv2 ⟨v2, H2, I2, rv2, z⟩
/-- a & b and its like, both of one class -/
theorem od_ownB {op : Operator} {gs : List (Str × D)} {nm : Str} (F : HasMe X.prog X.w X.K X.mg X.base k C nm S) (hnm : PySem.dunder op.info.2 = nm) (hsf : PySem.W.selfFirst X.K C = true) (hr : Room k X.A) (ho : ObjD M x C fs) (ho2 : ObjD M y C gs) (h : S [x, y] M Φ) : OpD X (binaryOp op) x y M Φ := fun P H a b m ia ib pins σ s u w I r1 r2 => by
  obtain ⟨f, fd, ps, F1, hm, hb⟩ := F
  obtain ⟨a1, dx, od, rfl, rfl, J⟩ := inst_of ho m ia I r1
  obtain ⟨a2, dx2, od2, rfl, rfl, J2⟩ := inst_of ho2 m ib I r2
  obtain ⟨mm, Fr1⟩ := I.fr
  refine PySem.W.binop_K Fr1 I.ok.mod.kin J J2.type hsf (by rw [hnm]; exact hm.at_) hm.fn (thn (run_me (vs := [.ref a1, .ref a2]) F1 hr hb I (.cons rfl (.cons rfl .nil)) (.cons ia (.cons ib .nil)) m h) fun u2 s2 ⟨v2, H2, I2, rv2, z⟩ => ?_)
  exact SlX.cmpback rv2 ⟨v2, H2, I2, rv2, z⟩
end
/-! ### for i, x in enumerate(a tuple) -/
section
variable {prog : Program} {w : World} {A : Around} {E : Value → Shared → Prop} {s : Shared}
set_option maxHeartbeats 4000000 in
theorem enumNew {v : Value} {ob : Obj} {G : Heap → Prop} (B : Begins v ob G) :
    Meets (Builtin.«enumerate.__new__» ⟨[.type "enumerate", v], []⟩) (fun _ R s => G s.heap ∧
      R (.ok (.ret (.ref (s.heap.push ob).objs.size))) { s with heap := (s.heap.push ob).push { cls := .type "enumerate", data := .fields #[.none, .bool false, .ref s.heap.objs.size, rawInt 0, .none, .none] } }) :=
  .of_wp fun prog w A R s hz => by
    obtain ⟨hh, g, dr, tk, os⟩ := s
    obtain ⟨h1, hz⟩ := hz
    have hsub := sub_enumerate
    have q1 : ∀ {A1 : Around} {E1 : Value → Shared → Prop} {Q1 : Value → Shared → Prop}, Q1 (.ref hh.objs.size) ⟨hh.push ob, g, dr, tk, os⟩ → wpAny (model prog w) A1 (pyIter v) Q1 E1 ⟨hh, g, dr, tk, os⟩ :=
      fun q => B.iter prog w _ _ ⟨hh, g, dr, tk, os⟩ _ h1 q
    wp_walk using q1
    refine wpAny_stack_any fun st => wpAny_pure ?_
    split
    · rename_i c _ _ _ _ _
      cases (c == Value.type "enumerate")
      · wp_walk using q1
        exact ⟨_, rfl, hz⟩
      · wp_walk using q1
        exact ⟨_, rfl, hz⟩
    · wp_walk using q1
      exact ⟨_, rfl, hz⟩
theorem callEnum {v : Value} {ob : Obj} {G : Heap → Prop} {Q : Value → Shared → Prop} (B : Begins v ob G) (h1 : G s.heap)
    (hq : ∀ h', IsEnum h' (s.heap.objs.size + 1) s.heap.objs.size 0 .none → h'.get? s.heap.objs.size = some ob → h'.objs.size = s.heap.objs.size + 2 →
      (∀ b o, s.heap.get? b = some o → h'.get? b = some o) → Q (.ref (s.heap.objs.size + 1)) { s with heap := h' }) :
    wpAny (model prog w) A (call (.type "enumerate") [v]) Q E s := by
  refine callType_new F.called_enumerate (by decide) (F.typeCall_enumerate_1 _) (F.newCall_enumerate_1 _) (fun obj => F.args_object_init_2 obj _) F.entry_enumerate_new (enumNew B) ⟨h1, ?_⟩
  have hz : (s.heap.push ob).objs.size = s.heap.objs.size + 1 := Heap.size_push ..
  show _ ∧ _
  rw [hz]
  have he : IsEnum ((s.heap.push ob).push { cls := .type "enumerate", data := .fields #[.none, .bool false, .ref s.heap.objs.size, rawInt 0, .none, .none] }) (s.heap.objs.size + 1) s.heap.objs.size 0 .none := by
    have z := Heap.get?_push_size (s.heap.push ob) (o := { cls := .type "enumerate", data := .fields #[.none, .bool false, .ref s.heap.objs.size, rawInt 0, .none, .none] }) rfl
    rw [hz] at z
    exact z
  exact ⟨⟨_, he, rfl⟩, hq _ he (Heap.get?_push_of_some _ (Heap.get?_push_size _ B.free)) (by rw [Heap.size_push, hz]) fun b o z => Heap.get?_push_of_some _ (Heap.get?_push_of_some _ z)⟩
end
def ItU (K : PySem.W.Frag) (a : Addr) : It :=
  ⟨fun i H => ∃ (xs : List V) (x : V), SqT K H a xs ∧ xs[i]? = some x, fun i H v H' => ∃ T x, v = .ref T ∧ H T = none ∧ H' = upd H T (.tup [.int (i : Nat), x]) ∧ ∀ xs, SqT K H a xs → xs[i]? = some x, fun i H => ∃ xs : List V, SqT K H a xs ∧ xs.length = i⟩
theorem turn_enumU {P : Program} {w : World} {K : PySem.W.Frag} {elts : List Expr} {kk : Nat} {tpos : Pos} (a e it : Addr) (nea : a ≠ it) (nee : a ≠ e) :
    Turn P w K (.Tuple elts kk tpos) (ItU K a) [e, it] e (fun i h => (∃ old, IsEnum h e it ((i : Nat) : Int) old) ∧ h.IsTupleIter it a i ∧ e ≠ it) where
  mem := by simp
  obj := fun i h st b hb => by
    obtain ⟨⟨old, he⟩, ⟨o, ho, hc, hd⟩, _⟩ := st
    have e' : b = e ∨ b = it := by simpa using hb
    rcases e' with z | z
    · rw [z]; exact ⟨_, he, fun v q => nomatch q⟩
    · rw [z]; exact ⟨o, ho, fun v q => by rw [hd] at q; cases q⟩
  keep := fun i h h' st kp => let ⟨⟨old, he⟩, hi, hne⟩ := st; ⟨⟨old, kp e (by simp) _ he⟩, hi.at fun o q => kp it (by simp) o q, hne⟩
  item := by
    intro X hP hw hK hc i pins s σ H E I hf st hg
    subst hP hw hK
    obtain ⟨⟨old, he⟩, hit, hne⟩ := st
    obtain ⟨xs, x, hq, hx⟩ := hg
    obtain ⟨its, rv, pl, hz⟩ := I.tuple hq
    obtain ⟨u, hu, ru⟩ := rv.get hx
    have hel : e < s.heap.objs.size := Heap.lt_size he
    have hil : it < s.heap.objs.size := by obtain ⟨_, q, _⟩ := hit; exact Heap.lt_size q
    have hsz0 : i < its.toArray.size := by
      rw [List.size_toArray]
      exact (List.getElem?_eq_some_iff.mp hu).1
    have DD := Draws.tuple (prog := X.prog) (w := X.w) (A := X.A.in1) (show X.A.in1.handled = none from I.ok.hd hc) it a nea its.toArray
    refine wpAny_pyNext_enum_itemD DD he ⟨hit, show s.heap.IsTuple a its.toArray from pl⟩ hsz0 hne (by
      intro z
      have z' : e = it ∨ e = a := by simpa using z
      rcases z' with z' | z'
      · exact hne z'
      · exact nee z'.symm) fun x' h' tk hPx ho hst' hT hsz hk => ?_
    have ex : x' = u := by
      have h2 : its.toArray[i]? = some x' := hPx
      have h3 : its[i]? = some x' := by simpa using h2
      rw [hu] at h3
      exact (Option.some.inj h3).symm
    subst ex
    refine ⟨_, rfl, wpAny_letOwnedTupleGo_enum (s := { s with heap := h', toks := tk + 1 }) ho fun h'' he' sb => ?_⟩
    have hT2 : h''.get? s.heap.objs.size = some { cls := .type "tuple", data := .seq #[.int i tk, x'] } := (sb.2 _ (Nat.ne_of_gt hel)).trans hT
    have new : ObjOk X.prog X.w (upd H s.heap.objs.size (.tup [.int (i : Nat), x])) h'' s.heap.objs.size (.tup [.int (i : Nat), x]) :=
      ⟨by show 2 ≤ sizeLine; decide, [.int i tk, x'], .cons ⟨_, rfl⟩ (.cons ru .nil), ⟨_, hT2, rfl, _, rfl⟩⟩
    have I1 : Inv X pins σ (upd H s.heap.objs.size (.tup [.int (i : Nat), x])) { s with heap := h'', toks := tk + 1 } :=
      I.turnedNew (ch := [e, it]) (fun b ob hb q => (sb.2 b (fun z => hb (by simp [z]))).trans (hk b ob (fun z => hb (by simp [z])) (fun z => hb (by simp [z])) q)) hf (Nat.le_refl _) new
    refine ⟨.ref s.heap.objs.size, _, I1, rfl, ⟨_, x, rfl, I.hok.fresh (Nat.le_refl _), rfl, fun ys hy => by rw [I.tuple_inj hy hq]; exact hx⟩, ⟨⟨x', ?_⟩, hst'.1.at fun o q => (sb.2 it (Ne.symm hne)).trans q, hne⟩, fun b hb => ?_⟩
    · have e1 : ((i + 1 : Nat) : Int) = (i : Int) + 1 := by omega
      rw [e1]
      exact he'
    · have hb' : b < s.heap.objs.size := by
        have e' : b = e ∨ b = it := by simpa using hb
        rcases e' with z | z
        · rw [z]; exact hel
        · rw [z]; exact hil
      rw [upd_ne (Nat.ne_of_lt hb')]
      exact (hf b hb).1
  done := by
    intro X hP hw hK hc i pins s σ H E I hf st hg
    subst hP hw hK
    obtain ⟨⟨old, he⟩, hit, hne⟩ := st
    obtain ⟨xs, hq, hx⟩ := hg
    obtain ⟨its, rv, pl, hz⟩ := I.tuple hq
    obtain ⟨f0, f1, f2, f3, f4, f5⟩ := hf it (by simp)
    have hl := rv.length
    have DD := Draws.tuple (prog := X.prog) (w := X.w) (A := X.A.in1) (show X.A.in1.handled = none from I.ok.hd hc) it a nea its.toArray
    have en : its.toArray.size = i := by rw [List.size_toArray, ← hl, hx]
    refine wpAny_pyNext_enum_endD DD he (by rw [en]; exact ⟨hit, show s.heap.IsTuple a its.toArray from pl⟩) fun h' eb => ⟨rfl, I.turned (t' := s.toks) (fun b o hb q => eb b o hb q) f0 f1 f3 f4 f5⟩
  self := fun A i s Q E st h => let ⟨⟨_, he⟩, _⟩ := st; wpAny_pyIter_enum he h
def iEnumU (K : PySem.W.Frag) (ta : TA) : TI := fun σ H R => ta σ H fun vs H1 => ∃ a xs, vs = [.ref a] ∧ SqT K H1 a xs ∧ R (ItU K a) H1
theorem pi_enumU {X : Cx} {e : Expr} {ta : TA} {p pos tpos : Pos} {elts : List Expr} {kk : Nat} (hg : Gl X "enumerate") (hm : X.mg "enumerate" = none) (ha : PA X [e] ta) (hs : starEach [e] X.env = [(false, eval e X.env)]) :
    PI X (.Tuple elts kk tpos) (.Call (.Name "enumerate" p) [e] [] pos) (iEnumU X.K ta) := by
  refine ⟨fun pins s σ H R I h => ?_⟩
  refine Call_ (ld_blt I hg hm boot_enumerate (PyProof.Rows.callWith_type1 (thn (ha.run pos pins s σ H _ I h) fun us s1 ⟨vs, H1, I1, r1, q1⟩ => ?_) hs rfl))
  obtain ⟨a, xs, ex, hq, q⟩ := q1
  subst ex
  obtain ⟨u, rfl, ru⟩ := r1.one
  cases ru
  obtain ⟨its, rv, pl, hz⟩ := I1.tuple hq
  have hal : a < s1.heap.objs.size := by
    obtain ⟨o, ho, _⟩ := id pl
    exact Heap.lt_size ho
  refine callEnum (begins_tuple a its.toArray) (show s1.heap.IsTuple a its.toArray from pl) fun h' he hit hsz hk => wpAny_pyIter_enum he ?_
  have I2 : Inv X pins σ H1 { s1 with heap := h' } := I1.kept (t' := s1.toks) hk
  refine ⟨s1.heap.objs.size + 1, [s1.heap.objs.size + 1, s1.heap.objs.size], _, _, H1, rfl, I2, turn_enumU a (s1.heap.objs.size + 1) s1.heap.objs.size (Nat.ne_of_lt hal) (Nat.ne_of_lt (Nat.lt_succ_of_lt hal)), ⟨⟨.none, he⟩, ⟨_, hit, rfl, rfl⟩, Nat.succ_ne_self _⟩, fun b hb => ?_, q⟩
  have e' : b = s1.heap.objs.size + 1 ∨ b = s1.heap.objs.size := by simpa using hb
  have hle : s1.heap.objs.size ≤ b := by
    rcases e' with z | z
    · rw [z]; exact Nat.le_add_right _ _
    · rw [z]; exact Nat.le_refl _
  exact I1.fpOk hle (I1.hok.fresh hle)
section
variable {X : Cx} {Γ : Sl} {M : Mem} {a b : Expr} {body : List Stmt} {Ψ : Po} {pos p pos2 tpos : Pos} {elts : List Expr} {kk : Nat}
/-- for i, x in enumerate(a tuple) -/
theorem w1_forEU (hp : PassesOwn (model X.prog X.w) X.A X.env X.xe) (hc : X.calm = true) (hg : Gl X "enumerate") (hm : X.mg "enumerate" = none)
    (h : WA X Γ M [a] fun ds M1 => ∃ (Iv : Nat → Sl → Mem → Prop) (xs : List D), ds = [.tup xs] ∧ Iv 0 Γ M1 ∧ (∀ (i : Nat) (y : D) Γ' M', xs[i]? = some y → Iv i Γ' M' → GD X Γ' M' (.Tuple elts kk tpos) (.tup [.int (i : Int), y]) fun Γ2 M2 => WS X Γ2 M2 body { Ψ with nx := Iv (i + 1), ct := Iv (i + 1), bk := Ψ.nx }) ∧ ∀ Γ' M', Iv xs.length Γ' M' → Ψ.nx Γ' M')
    (hs : starEach [a] X.env = [(false, eval a X.env)] := by rfl) (hf : ∀ x, foldedSetIterable (.Call (.Name "enumerate" p) [a] [] pos2) X.env x = pure x := by intro _; rfl) : W1 X Γ M (.For (.Tuple elts kk tpos) (.Call (.Name "enumerate" p) [a] [] pos2) body [] pos) Ψ := fun P σ H s m =>
  wpS_of (ps_for hp hc (pi_enumU hg hm pa_wp hs) pg_wp pss_wp hf) ((h P σ H s m).mono fun vs H1 ⟨ds, M1, P1, ⟨Iv, xs, ed, hI, hstep, hdone⟩, e1, m1, i1⟩ => by
    subst ed
    obtain ⟨v, rfl, hv⟩ := i1.un1
    cases hv with
    | @tup l vs _ hq hl hi =>
      refine ⟨l, vs, rfl, Same.tupS m1.ex hq, fun i n σ' H' => n = xs.length - i ∧ i ≤ xs.length ∧ FinS X.K P1 (Iv i) σ' H', ⟨xs.length, rfl, Nat.zero_le _, Γ, M1, P1, hI, Same.refl P1, s.mono e1, m1⟩, ?_⟩
      rintro i n σ' H' ⟨rfl, hin, Γ', M', P', hI', e', s', m'⟩
      have hqq : SqT X.K H' l vs := Same.tupS m'.ex (Same.tupS e' hq)
      by_cases hlt : i < xs.length
      · have hx : vs[i]? = some (vs[i]'(by rw [hl]; exact hlt)) := List.getElem?_eq_getElem _
        obtain ⟨y, hy, iy⟩ := IsDs.getV (K := X.K) (P := P1) ⟨hl, hi⟩ hx
        refine .inr ⟨⟨vs, _, hqq, hx⟩, FinS X.K P1 (Iv (i + 1)), fun σ2 H2 z => ⟨xs.length - (i + 1), by omega, rfl, hlt, z⟩, fun x0 H2 ⟨T, x1, e0, hT, eH, hz⟩ => ?_⟩
        subst e0 eH
        have ex : x1 = vs[i]'(by rw [hl]; exact hlt) := Option.some.inj ((hz vs hqq).symm.trans hx)
        subst ex
        obtain ⟨m2, e2⟩ := m'.push (o := .tup [.int (i : Int), vs[i]'(by rw [hl]; exact hlt)]) hT
        refine (hstep i y Γ' M' hy hI' (upd P' T (.tup [.int (i : Int), vs[i]'(by rw [hl]; exact hlt)])) σ' _ (.ref T) (s'.mono e2) m2 (.tup (SqT.of upd_same) rfl (IsDs.cons .int (.cons (iy.mono (e'.trans e2)) .nil)).2)).mono fun σ2 H2 ⟨Γ2, M2, P2, q, e3, s2, mm2⟩ => (q P2 σ2 H2 s2 mm2).mono ?_
        exact ⟨fun _ _ z => z.up (e'.trans (e2.trans e3)), fun _ _ z => z.up (e1.trans (e'.trans (e2.trans e3))), fun _ _ z => z.up (e1.trans (e'.trans (e2.trans e3))), fun _ _ z => z.up (e'.trans (e2.trans e3))⟩
      · have ei : i = xs.length := by omega
        subst ei
        exact .inl ⟨⟨vs, hqq, hl⟩, Γ', M', P', hdone Γ' M' hI', e1.trans e', s', m'⟩)
/-- for a, b in zip(two tuples of one length) -/
theorem w1_forZU (hp : PassesOwn (model X.prog X.w) X.A X.env X.xe) (hc : X.calm = true) (hg : Gl X "zip") (hm : X.mg "zip" = none)
    (h : WA X Γ M [a, b] fun ds M1 => ∃ (Iv : Nat → Sl → Mem → Prop) (xs ys : List D), ds = [.tup xs, .tup ys] ∧ xs.length = ys.length ∧ Iv 0 Γ M1 ∧ (∀ (i : Nat) (x y : D) Γ' M', xs[i]? = some x → ys[i]? = some y → Iv i Γ' M' → GD X Γ' M' (.Tuple elts kk tpos) (.tup [x, y]) fun Γ2 M2 => WS X Γ2 M2 body { Ψ with nx := Iv (i + 1), ct := Iv (i + 1), bk := Ψ.nx }) ∧ ∀ Γ' M', Iv xs.length Γ' M' → Ψ.nx Γ' M')
    (hs : starEach [a, b] X.env = (false, eval a X.env) :: starEach [b] X.env := by rfl) (hpl : (backTo pos2 (starEach [b] X.env)).any (·.1) = false := by rfl) (hf : ∀ x, foldedSetIterable (.Call (.Name "zip" p) [a, b] [] pos2) X.env x = pure x := by intro _; rfl) : W1 X Γ M (.For (.Tuple elts kk tpos) (.Call (.Name "zip" p) [a, b] [] pos2) body [] pos) Ψ := fun P σ H s m =>
  wpS_of (ps_for hp hc (RZ.pi_zipA hg hm pa_wp hs hpl) pg_wp pss_wp hf) ((h P σ H s m).mono fun vs H1 ⟨ds, M1, P1, ⟨Iv, xs, ys, ed, hxy, hI, hstep, hdone⟩, e1, m1, i1⟩ => by
    subst ed
    obtain ⟨v, v2, rfl, hv, hv2⟩ := i1.un2
    cases hv with
    | @tup l vs _ hq hl hi =>
      cases hv2 with
      | @tup l2 vs2 _ hq2 hl2 hi2 =>
        refine ⟨l, l2, vs, vs2, rfl, .inr ⟨Same.tupS m1.ex hq, Same.tupS m1.ex hq2, RZ.for_zipT (K := X.K) (a := l) (b := l2) (xs := vs) (ys := vs2) (by rw [hl, hl2, hxy]) (fun i => FinS X.K P1 (Iv i)) ⟨Γ, M1, P1, hI, Same.refl P1, s.mono e1, m1⟩
          (fun i σ' H' ⟨Γ', M', P', _, e', _, m'⟩ => ⟨Same.tupS m'.ex (Same.tupS e' hq), Same.tupS m'.ex (Same.tupS e' hq2)⟩) ?_ ?_⟩⟩
        · rintro i x y T σ' H' hx hy ⟨Γ', M', P', hI', e', s', m'⟩ hT
          obtain ⟨dx, hdx, ix⟩ := IsDs.getV (K := X.K) (P := P1) ⟨hl, hi⟩ hx
          obtain ⟨dy, hdy, iy⟩ := IsDs.getV (K := X.K) (P := P1) ⟨hl2, hi2⟩ hy
          obtain ⟨m2, e2⟩ := m'.push (o := .tup [x, y]) hT
          refine (hstep i dx dy Γ' M' hdx hdy hI' (upd P' T (.tup [x, y])) σ' _ (.ref T) (s'.mono e2) m2 (.tup (SqT.of upd_same) rfl (IsDs.cons (ix.mono (e'.trans e2)) (.cons (iy.mono (e'.trans e2)) .nil)).2)).mono fun σ2 H2 ⟨Γ2, M2, P2, q, e3, s2, mm2⟩ => (q P2 σ2 H2 s2 mm2).mono ?_
          exact ⟨fun _ _ z => z.up (e'.trans (e2.trans e3)), fun _ _ z => z.up (e1.trans (e'.trans (e2.trans e3))), fun _ _ z => z.up (e1.trans (e'.trans (e2.trans e3))), fun _ _ z => z.up (e'.trans (e2.trans e3))⟩
        · rintro σ' H' ⟨Γ', M', P', hI', e', s', m'⟩
          exact ⟨Γ', M', P', hdone Γ' M' (by rw [← hl]; exact hI'), e1.trans e', s', m'⟩)
end
end Dt

set_option Elab.async false
set_option linter.all false
set_option maxRecDepth 100000
set_option maxHeartbeats 2000000
/-! Dt, part 7: small rules for the walks. -/
namespace Dt
open PySem PySem.Spec PyProof.Rows L2
theorem lk_here {f : Str} {v : D} {r : List (Str × D)} : ((f, v) :: r).lookup f = some v := by simp
theorem lk_there {f g : Str} {w : D} {r : List (Str × D)} {o : Option D} (h : (f == g) = false) (q : r.lookup f = o) : ((g, w) :: r).lookup f = o := by
  rw [List.lookup_cons, h]
  exact q
theorem lk_nil {f : Str} : ([] : List (Str × D)).lookup f = none := rfl
theorem put_nil {f : Str} {d : D} : putD f d [] = [(f, d)] := rfl
theorem put_there {f g : Str} {d e : D} {r r' : List (Str × D)} (h : ¬ g = f) (q : putD f d r = r') : putD f d ((g, e) :: r) = (g, e) :: r' := by
  unfold putD
  rw [if_neg h, q]
section
variable {X : Cx} {Γ : Sl} {M : Mem} {Φ : VP} {a b c : Expr} {pos : Pos} {B : Bool → Mem → Prop}
/-- not x as a value -/
theorem wnotv (h : WE X Γ M a fun d M1 => TrD X d M1 fun k M2 => Φ (.bl (!k)) M2) : WE X Γ M (.UnaryOp .Not a pos) Φ := fun P σ H s m pins sh I =>
  UnaryOp_ (thn (h P σ H s m pins sh I) fun v s1 ⟨x, H1, I1, r1, d, M1, P1, q, e1, m1, i1⟩ => not_of (thn (q P1 H1 x m1 i1 pins σ s1 v I1 r1) fun c s2 ⟨H2, I2, M2, P2, q2, e2, m2⟩ => ⟨.bl (!c), H2, I2, rfl, _, M2, P2, q2, e1.trans e2, m2, .bl⟩))
theorem wt_chain {op op' : CmpOp} (h : WE X Γ M a fun x M1 => WE X Γ M1 b fun y M2 => OpD X (compareOp op) x y M2 fun d M3 => ∃ k, d = .bl k ∧ (k = true → WE X Γ M3 c fun z M4 => OpD X (compareOp op') y z M4 fun d M5 => ∃ k, d = .bl k ∧ B k M5) ∧ (k = false → B false M3))
    (hq : PT X (.Compare a [op, op'] [b, c] pos) (tTest (tChain (opT X (compareOp op)) (opT X (compareOp op')) (wpT X a) (wpT X b) (wpT X c))) := by exact pt_chain op_wp op_wp pe_wp pe_wp pe_wp) : WT X Γ M (.Compare a [op, op'] [b, c] pos) B := fun P σ H s m =>
  wpB_of hq ((h P σ H s m).mono fun v H1 ⟨d, M1, P1, q, e1, m1, i1⟩ => (q P1 σ H1 (s.mono e1) m1).mono fun u H2 ⟨d2, M2, P2, q2, e2, m2, i2⟩ => (q2 P2 H2 v u m2 (i1.mono e2) i2).mono fun w H3 ⟨d3, M3, P3, ⟨k, ek, qt, qf⟩, e3, m3, i3⟩ => by
    subst ek
    cases i3
    refine ⟨k, rfl, ?_⟩
    cases k with
    | true => exact iteT ((qt rfl P3 σ H3 (s.mono ((e1.trans e2).trans e3)) m3).mono fun w' H4 ⟨d4, M4, P4, q4, e4, m4, i4⟩ => (q4 P4 H4 u w' m4 ((i2.mono e3).mono e4) i4).mono fun w5 H5 ⟨d5, M5, P5, ⟨k5, ek5, q5⟩, e5, m5, i5⟩ => by
        subst ek5
        cases i5
        exact ⟨k5, rfl, M5, P5, q5, (((e1.trans e2).trans e3).trans e4).trans e5, m5⟩)
    | false => exact iteF ⟨false, rfl, M3, P3, qf rfl, (e1.trans e2).trans e3, m3⟩)
end
/-! ### the rules in short -/
section
variable {X : Cx} {Γ : Sl} {M : Mem} {Φ : VP} {Ψ : Po} {e o : Expr} {es : List Expr} {pos p apos : Pos} {k : Nat} {x : Str} {S : DS}
theorem wcB {id : String} (hm : X.mg x = none) (hv : bootBuiltins x = some (.builtin id)) (h : WA X Γ M (e :: es) fun ds M1 => CaD X (.builtin id) ds M1 Φ) (hg : Gl X x := by rfl) (hn : x ≠ "__name__" := by decide) (hdb : (x == ("__debug__" : Str)) = false := by decide)
    (he : starEach (e :: es) X.env = (false, eval e X.env) :: starEach es X.env := by rfl) (hpl : (backTo pos (starEach es X.env)).any (·.1) = false := by rfl) : WE X Γ M (.Call (.Name x p) (e :: es) [] pos) Φ :=
  we_callB hg hm hv hn hdb h (pe_callB ca_wp hg hm hv pa_wp hn hdb he hpl)
theorem wcT {T : String} (hm : X.mg x = none) (hv : bootBuiltins x = some (.type T)) (h : WA X Γ M (e :: es) fun ds M1 => CaD X (.type T) ds M1 Φ) (hg : Gl X x := by rfl) (hn : x ≠ "__name__" := by decide) (hdb : (x == ("__debug__" : Str)) = false := by decide)
    (he : starEach (e :: es) X.env = (false, eval e X.env) :: starEach es X.env := by rfl) (hpl : (backTo pos (starEach es X.env)).any (·.1) = false := by rfl) : WE X Γ M (.Call (.Name x p) (e :: es) [] pos) Φ :=
  we_callTy hg hm hv hn hdb h (pe_callTy ca_wp hg hm hv pa_wp hn hdb he hpl)
theorem wbt {n : String} (hm : X.mg x = none) (hv : bootBuiltins x = some (.type n)) (h : Φ (.ty n) M) (hg : Gl X x := by rfl) (hn : x ≠ "__name__" := by decide) (hd : (x == ("__debug__" : Str)) = false := by decide) : WE X Γ M (.Name x pos) Φ := we_bty hg hm hv hn hd h
theorem wgl {a : Addr} (hm : X.mg x = some (.ref a)) (h : Φ (.adr a) M) (hg : Gl X x := by rfl) (hd : (x == ("__debug__" : Str)) = false := by decide) : WE X Γ M (.Name x pos) Φ := we_glob hg hm hd h
theorem wcf (F : HasFn X.prog X.w X.K X.mg X.base k x S) (hr : Room k X.A) (h : WA X Γ M (e :: es) fun ds M1 => S ds M1 Φ) (hg : Gl X x := by rfl) (hdb : (x == ("__debug__" : Str)) = false := by decide) (he : starEach (e :: es) X.env = (false, eval e X.env) :: starEach es X.env := by rfl)
    (hpl : (backTo pos (starEach es X.env)).any (·.1) = false := by rfl) : WE X Γ M (.Call (.Name x p) (e :: es) [] pos) Φ := we_call F hr hg h hdb he hpl
theorem wmk {C : Addr} (F : HasMk X.prog X.w X.K X.mg X.base k C x S) (hr : Room (k + 1) X.A) (h : WA X Γ M (e :: es) fun ds M1 => ∀ l, S (.adr l :: ds) ((l, .ins C []) :: M1) fun r M2 => r = .non ∧ ∃ fs M3, M2 = (l, .ins C fs) :: M3 ∧ Φ (.obj C fs) M3)
    (hg : Gl X x := by rfl) (hdb : (x == ("__debug__" : Str)) = false := by decide) (he : starEach (e :: es) X.env = (false, eval e X.env) :: starEach es X.env := by rfl) (hpl : (backTo pos (starEach es X.env)).any (·.1) = false := by rfl) : WE X Γ M (.Call (.Name x p) (e :: es) [] pos) Φ := we_makeF F hr hg h hdb he hpl
theorem wme {m : Str} {C : Addr} (F : HasMe X.prog X.w X.K X.mg X.base k C m S) (hr : Room k X.A) (c : Cls X.K C) (h : WE X Γ M o fun d M1 => (∃ fs, ObjD M1 d C fs ∧ fs.lookup m = none) ∧ WA X Γ M1 (e :: es) fun ds M2 => S (d :: ds) M2 Φ)
    {pl : Sem Bool} (hst : starEach (e :: es) X.env = (false, eval e X.env) :: starEach es X.env := by rfl) (hpl : (backTo pos (starEach es X.env)).any (·.1) = false := by rfl)
    (ht : eval (.Call (.Attribute o m apos) (e :: es) [] pos) X.env = (do
      let ov ← eval o X.env
      standAt apos.atName
      let (f, first) ← holding [ov] (getMethod ov m pl)
      callWith pos f first (backTo pos (starEach (e :: es) X.env)) (backToKw pos (keywordEach [] X.env))) := by rfl) : WE X Γ M (.Call (.Attribute o m apos) (e :: es) [] pos) Φ := we_meth F hr c h hst hpl ht
theorem wme0 {m : Str} {C : Addr} (F : HasMe X.prog X.w X.K X.mg X.base k C m S) (hr : Room k X.A) (c : Cls X.K C) (h : WE X Γ M o fun d M1 => (∃ fs, ObjD M1 d C fs ∧ fs.lookup m = none) ∧ S [d] M1 Φ)
    {pl : Sem Bool} (ht : eval (.Call (.Attribute o m apos) [] [] pos) X.env = (do
      let ov ← eval o X.env
      standAt apos.atName
      let (f, first) ← holding [ov] (getMethod ov m pl)
      callWith pos f first (backTo pos (starEach [] X.env)) (backToKw pos (keywordEach [] X.env))) := by rfl) : WE X Γ M (.Call (.Attribute o m apos) [] [] pos) Φ := we_meth0 F hr c h ht
end
/-- the built-in names that the module leaves alone -/
structure Bf (mg : Str → Option Value) : Prop where
  len : mg "len" = none
  all : mg "all" = none
  any : mg "any" = none
  isi : mg "isinstance" = none
  int : mg "int" = none
  bool : mg "bool" = none
  str : mg "str" = none
  tuple : mg "tuple" = none
  list : mg "list" = none
  range : mg "range" = none
  enum : mg "enumerate" = none
  zip : mg "zip" = none
  abs : mg "abs" = none
  max : mg "max" = none
  min : mg "min" = none
  sum : mg "sum" = none
  sorted : mg "sorted" = none
  repr : mg "repr" = none
  set : mg "set" = none
theorem bt_all : bootBuiltins "all" = some (.builtin "all") := by decide +kernel
theorem bt_any : bootBuiltins "any" = some (.builtin "any") := by decide +kernel
theorem bt_sum : bootBuiltins "sum" = some (.builtin "sum") := by decide +kernel
/-! ### comprehensions by a function -/
section
variable {X : Cx} {Γ : Sl} {M : Mem} {Φ : VP} {elt iter : Expr} {scope : Scope} {own : List (Str × Nat)} {pos : Pos}
/-- [elt for x in lst ..], each item's element told by a function of the item's data -/
theorem lcMapL {x : Str} {px : Pos} {j : Nat} (hN : X.N.Nodup) (h : WE X Γ M iter fun d M1 => ∃ (xs : List D) (g : D → D), d = .lst xs ∧ xs.length < sizeLine ∧ (∀ (i : Nat) (y : D), xs[i]? = some y → ∀ l out s H C cl fp, WE (blkOf X scope s H C cl fp) ((wipeD Γ (own.map (·.2))).set j (some y)) ((l, .lst out) :: M1) elt fun z M2 => z = g y ∧ M2 = (l, .lst out) :: M1) ∧ Φ (.lst (xs.map g)) M1)
    (ok : BlkOk X.N X.env.scope scope own) (hg : ∀ (s : Shared) (H : Hp) (C : Addr) (cl : List (Str × Addr)) (fp : List Addr), PG (X.blk s H scope (compEnvC scope cl C X.env) fp) (.Name x px) (gName j)) (hj : j ∈ own.map (·.2) := by decide) (hc : X.calm = true := by rfl)
    (hs : ∀ x, foldedSetIterable iter X.env x = pure x := by intro _; rfl) : WE X Γ M (.ListComp elt [⟨.Name x px, iter, [], 0⟩] scope pos) Φ := by
  refine we_frz (we_lcL hN (h.mono fun d M1 ⟨xs, g, hd, hl, hstep, q⟩ => ⟨fun i out M' => out = (xs.take i).map g ∧ M' = M1, xs, hd, ⟨rfl, rfl⟩, ?_, ?_⟩) hj ok hc hg hs)
  · rintro i y l out M' hy ⟨rfl, rfl⟩ s H C cl fp
    refine wts_nil ⟨fun _ s H C cl fp => (hstep i y hy l _ s H C cl fp).mono fun z M2 ⟨hz, hM⟩ => ⟨_, hM, ?_, ?_, rfl⟩, fun z => by cases z⟩
    · rw [List.length_map, List.length_take]
      omega
    · rw [List.take_add_one, hy, List.map_append, hz]
      rfl
  · rintro l out M' ⟨rfl, rfl⟩
    refine ⟨l, _, _, rfl, rfl, ?_⟩
    rw [List.take_length]
    exact q
/-- [elt for x in lst if test] -/
theorem lcMapLF {x : Str} {px : Pos} {j : Nat} {test : Expr} (hN : X.N.Nodup) (h : WE X Γ M iter fun d M1 => ∃ (xs : List D) (p : D → Bool) (g : D → D), d = .lst xs ∧ xs.length < sizeLine ∧ (∀ (i : Nat) (y : D), xs[i]? = some y → ∀ l out s H C cl fp, WT (blkOf X scope s H C cl fp) ((wipeD Γ (own.map (·.2))).set j (some y)) ((l, .lst out) :: M1) test fun k M2 => k = p y ∧ M2 = (l, .lst out) :: M1) ∧
      (∀ (i : Nat) (y : D), xs[i]? = some y → p y = true → ∀ l out s H C cl fp, WE (blkOf X scope s H C cl fp) ((wipeD Γ (own.map (·.2))).set j (some y)) ((l, .lst out) :: M1) elt fun z M2 => z = g y ∧ M2 = (l, .lst out) :: M1) ∧ Φ (.lst ((xs.filter p).map g)) M1)
    (ok : BlkOk X.N X.env.scope scope own) (hg : ∀ (s : Shared) (H : Hp) (C : Addr) (cl : List (Str × Addr)) (fp : List Addr), PG (X.blk s H scope (compEnvC scope cl C X.env) fp) (.Name x px) (gName j)) (hj : j ∈ own.map (·.2) := by decide) (hc : X.calm = true := by rfl)
    (hs : ∀ x, foldedSetIterable iter X.env x = pure x := by intro _; rfl) : WE X Γ M (.ListComp elt [⟨.Name x px, iter, [test], 0⟩] scope pos) Φ := by
  refine we_frz (we_lcL hN (h.mono fun d M1 ⟨xs, p, g, hd, hl, htest, hstep, q⟩ => ⟨fun i out M' => out = ((xs.take i).filter p).map g ∧ M' = M1, xs, hd, ⟨rfl, rfl⟩, ?_, ?_⟩) hj ok hc hg hs)
  · rintro i y l out M' hy ⟨rfl, rfl⟩ s H C cl fp
    have ht : xs.take (i + 1) = xs.take i ++ [y] := by
      rw [List.take_add_one, hy]
      rfl
    refine wts_one ((htest i y hy l _ s H C cl fp).mono fun k M2 ⟨hk, hM⟩ => ?_)
    subst hk hM
    refine ⟨fun hp s H C cl fp => (hstep i y hy hp l _ s H C cl fp).mono fun z M2 ⟨hz, hM⟩ => ⟨_, hM, ?_, ?_, rfl⟩, fun hp => ⟨_, rfl, ?_, rfl⟩⟩
    · rw [List.length_map]
      have h1 := List.length_filter_le p (xs.take i)
      rw [List.length_take] at h1
      omega
    · rw [ht, List.filter_append, List.map_append, hz, List.filter_cons, if_pos hp]
      rfl
    · rw [ht, List.filter_append, List.filter_cons, if_neg (by rw [hp]; decide)]
      simp
  · rintro l out M' ⟨rfl, rfl⟩
    refine ⟨l, _, _, rfl, rfl, ?_⟩
    rw [List.take_length]
    exact q
/-- [elt for x in tup ..], each item's element told by a function of the item's data -/
theorem lcMapT {x : Str} {px : Pos} {j : Nat} (hN : X.N.Nodup) (h : WE X Γ M iter fun d M1 => ∃ (xs : List D) (g : D → D), d = .tup xs ∧ xs.length < sizeLine ∧ (∀ (i : Nat) (y : D), xs[i]? = some y → ∀ l out s H C cl fp, WE (blkOf X scope s H C cl fp) ((wipeD Γ (own.map (·.2))).set j (some y)) ((l, .lst out) :: M1) elt fun z M2 => z = g y ∧ M2 = (l, .lst out) :: M1) ∧ Φ (.lst (xs.map g)) M1)
    (ok : BlkOk X.N X.env.scope scope own) (hg : ∀ (s : Shared) (H : Hp) (C : Addr) (cl : List (Str × Addr)) (fp : List Addr), PG (X.blk s H scope (compEnvC scope cl C X.env) fp) (.Name x px) (gName j)) (hj : j ∈ own.map (·.2) := by decide) (hc : X.calm = true := by rfl)
    (hs : ∀ x, foldedSetIterable iter X.env x = pure x := by intro _; rfl) : WE X Γ M (.ListComp elt [⟨.Name x px, iter, [], 0⟩] scope pos) Φ := by
  refine we_frz (we_lcT hN (h.mono fun d M1 ⟨xs, g, hd, hl, hstep, q⟩ => ⟨fun i out M' => out = (xs.take i).map g ∧ M' = M1, xs, hd, ⟨rfl, rfl⟩, ?_, ?_⟩) hj ok hc hg hs)
  · rintro i y l out M' hy ⟨rfl, rfl⟩ s H C cl fp
    refine wts_nil ⟨fun _ s H C cl fp => (hstep i y hy l _ s H C cl fp).mono fun z M2 ⟨hz, hM⟩ => ⟨_, hM, ?_, ?_, rfl⟩, fun z => by cases z⟩
    · rw [List.length_map, List.length_take]
      omega
    · rw [List.take_add_one, hy, List.map_append, hz]
      rfl
  · rintro l out M' ⟨rfl, rfl⟩
    refine ⟨l, _, _, rfl, rfl, ?_⟩
    rw [List.take_length]
    exact q
/-- [elt for x in tup if test] -/
theorem lcMapTF {x : Str} {px : Pos} {j : Nat} {test : Expr} (hN : X.N.Nodup) (h : WE X Γ M iter fun d M1 => ∃ (xs : List D) (p : D → Bool) (g : D → D), d = .tup xs ∧ xs.length < sizeLine ∧ (∀ (i : Nat) (y : D), xs[i]? = some y → ∀ l out s H C cl fp, WT (blkOf X scope s H C cl fp) ((wipeD Γ (own.map (·.2))).set j (some y)) ((l, .lst out) :: M1) test fun k M2 => k = p y ∧ M2 = (l, .lst out) :: M1) ∧
      (∀ (i : Nat) (y : D), xs[i]? = some y → p y = true → ∀ l out s H C cl fp, WE (blkOf X scope s H C cl fp) ((wipeD Γ (own.map (·.2))).set j (some y)) ((l, .lst out) :: M1) elt fun z M2 => z = g y ∧ M2 = (l, .lst out) :: M1) ∧ Φ (.lst ((xs.filter p).map g)) M1)
    (ok : BlkOk X.N X.env.scope scope own) (hg : ∀ (s : Shared) (H : Hp) (C : Addr) (cl : List (Str × Addr)) (fp : List Addr), PG (X.blk s H scope (compEnvC scope cl C X.env) fp) (.Name x px) (gName j)) (hj : j ∈ own.map (·.2) := by decide) (hc : X.calm = true := by rfl)
    (hs : ∀ x, foldedSetIterable iter X.env x = pure x := by intro _; rfl) : WE X Γ M (.ListComp elt [⟨.Name x px, iter, [test], 0⟩] scope pos) Φ := by
  refine we_frz (we_lcT hN (h.mono fun d M1 ⟨xs, p, g, hd, hl, htest, hstep, q⟩ => ⟨fun i out M' => out = ((xs.take i).filter p).map g ∧ M' = M1, xs, hd, ⟨rfl, rfl⟩, ?_, ?_⟩) hj ok hc hg hs)
  · rintro i y l out M' hy ⟨rfl, rfl⟩ s H C cl fp
    have ht : xs.take (i + 1) = xs.take i ++ [y] := by
      rw [List.take_add_one, hy]
      rfl
    refine wts_one ((htest i y hy l _ s H C cl fp).mono fun k M2 ⟨hk, hM⟩ => ?_)
    subst hk hM
    refine ⟨fun hp s H C cl fp => (hstep i y hy hp l _ s H C cl fp).mono fun z M2 ⟨hz, hM⟩ => ⟨_, hM, ?_, ?_, rfl⟩, fun hp => ⟨_, rfl, ?_, rfl⟩⟩
    · rw [List.length_map]
      have h1 := List.length_filter_le p (xs.take i)
      rw [List.length_take] at h1
      omega
    · rw [ht, List.filter_append, List.map_append, hz, List.filter_cons, if_pos hp]
      rfl
    · rw [ht, List.filter_append, List.filter_cons, if_neg (by rw [hp]; decide)]
      simp
  · rintro l out M' ⟨rfl, rfl⟩
    refine ⟨l, _, _, rfl, rfl, ?_⟩
    rw [List.take_length]
    exact q
end
end Dt

set_option Elab.async false
set_option linter.all false
set_option maxRecDepth 100000
set_option maxHeartbeats 2000000
/-! Dt, part 8: loops over short written things, turn by turn. -/
namespace Dt
open PySem PySem.Spec PyProof.Rows L2
/-- a loop's turns, one behind the other -/
def Unr (X : Cx) (tg : Expr) (body : List Stmt) (Ψ : Po) : List D → Sl → Mem → Prop
  | [], Γ, M => Ψ.nx Γ M
  | x :: r, Γ, M => GD X Γ M tg x fun Γ2 M2 => WS X Γ2 M2 body { Ψ with nx := Unr X tg body Ψ r, ct := Unr X tg body Ψ r, bk := Ψ.nx }
section
variable {X : Cx} {Γ : Sl} {M : Mem} {tg it a b : Expr} {body sts : List Stmt} {Ψ : Po} {pos p pos2 tpos : Pos} {elts : List Expr} {kk : Nat}
theorem unr_step {xs : List D} {i : Nat} {y : D} (h : xs[i]? = some y) {Γ' : Sl} {M' : Mem} (q : Unr X tg body Ψ (xs.drop i) Γ' M') : GD X Γ' M' tg y fun Γ2 M2 => WS X Γ2 M2 body { Ψ with nx := Unr X tg body Ψ (xs.drop (i + 1)), ct := Unr X tg body Ψ (xs.drop (i + 1)), bk := Ψ.nx } := by
  obtain ⟨hi, e⟩ := List.getElem?_eq_some_iff.mp h
  have e2 : xs.drop i = y :: xs.drop (i + 1) := by rw [List.drop_eq_getElem_cons hi, e]
  rw [e2] at q
  exact q
theorem unr_end {xs : List D} {Γ' : Sl} {M' : Mem} (q : Unr X tg body Ψ (xs.drop xs.length) Γ' M') : Ψ.nx Γ' M' := by
  rw [List.drop_length] at q
  exact q
theorem wu_T (hp : PassesOwn (model X.prog X.w) X.A X.env X.xe) (h : WE X Γ M it fun d M1 => ∃ xs : List D, d = .tup xs ∧ Unr X tg body { Ψ with nx := fun Γ' M' => WS X Γ' M' sts Ψ } xs Γ M1) (hc : X.calm = true := by rfl) (hf : ∀ x, foldedSetIterable it X.env x = pure x := by intro _; rfl) : WS X Γ M (.For tg it body [] pos :: sts) Ψ :=
  ws_cons (w1_forT hp hc (h.mono fun d M1 ⟨xs, ed, q⟩ => ⟨fun i => Unr X tg body { Ψ with nx := fun Γ' M' => WS X Γ' M' sts Ψ } (xs.drop i), xs, ed, q, fun i y Γ' M' hy z => unr_step hy z, fun Γ' M' z => unr_end z⟩) hf)
theorem wu_L (hp : PassesOwn (model X.prog X.w) X.A X.env X.xe) (h : WE X Γ M it fun d M1 => ∃ xs : List D, d = .lst xs ∧ Unr X tg body { Ψ with nx := fun Γ' M' => WS X Γ' M' sts Ψ } xs Γ M1) (hc : X.calm = true := by rfl) (hf : ∀ x, foldedSetIterable it X.env x = pure x := by intro _; rfl) : WS X Γ M (.For tg it body [] pos :: sts) Ψ :=
  ws_cons (w1_forL hp hc (h.mono fun d M1 ⟨xs, ed, q⟩ => ⟨fun i => Unr X tg body { Ψ with nx := fun Γ' M' => WS X Γ' M' sts Ψ } (xs.drop i), xs, ed, q, fun i y Γ' M' hy z => unr_step hy z, fun Γ' M' z => unr_end z⟩) hf)
/-- the items of enumerate, of zip -/
def enumD : Nat → List D → List D
  | _, [] => []
  | n, x :: r => .tup [.int (n : Int), x] :: enumD (n + 1) r
def zipD : List D → List D → List D
  | x :: r, y :: q => .tup [x, y] :: zipD r q
  | _, _ => []
theorem enumD_get : ∀ (xs : List D) (n i : Nat) (y : D), xs[i]? = some y → (enumD n xs)[i]? = some (.tup [.int ((n + i : Nat) : Int), y])
  | [], n, i, y, h => by simp at h
  | x :: r, n, 0, y, h => by
    simp only [List.getElem?_cons_zero, Option.some.injEq] at h
    subst h
    rfl
  | x :: r, n, i + 1, y, h => by
    have ih := enumD_get r (n + 1) i y (by simpa using h)
    show (enumD (n + 1) r)[i]? = _
    rw [ih]
    have e : n + 1 + i = n + (i + 1) := by omega
    rw [e]
theorem enumD_len : ∀ (n : Nat) (xs : List D), (enumD n xs).length = xs.length
  | _, [] => rfl
  | n, x :: r => by
    show (enumD (n + 1) r).length + 1 = r.length + 1
    rw [enumD_len]
theorem zipD_get : ∀ (xs ys : List D) (i : Nat) (x y : D), xs[i]? = some x → ys[i]? = some y → (zipD xs ys)[i]? = some (.tup [x, y])
  | [], _, i, x, y, h, _ => by simp at h
  | _ :: _, [], i, x, y, _, h => by simp at h
  | a :: r, b :: q, 0, x, y, h, h2 => by
    simp only [List.getElem?_cons_zero, Option.some.injEq] at h h2
    subst h h2
    rfl
  | a :: r, b :: q, i + 1, x, y, h, h2 => zipD_get r q i x y (by simpa using h) (by simpa using h2)
theorem zipD_len : ∀ (xs ys : List D), xs.length = ys.length → (zipD xs ys).length = xs.length
  | [], [], _ => rfl
  | [], _ :: _, h => by simp at h
  | _ :: _, [], h => by simp at h
  | a :: r, b :: q, h => by
    show (zipD r q).length + 1 = r.length + 1
    rw [zipD_len r q (by simpa using h)]
theorem wu_E (hp : PassesOwn (model X.prog X.w) X.A X.env X.xe) (hm : X.mg "enumerate" = none) (h : WA X Γ M [a] fun ds M1 => ∃ xs : List D, ds = [.tup xs] ∧ Unr X (.Tuple elts kk tpos) body { Ψ with nx := fun Γ' M' => WS X Γ' M' sts Ψ } (enumD 0 xs) Γ M1) (hc : X.calm = true := by rfl) (hg : Gl X "enumerate" := by rfl)
    (hs : starEach [a] X.env = [(false, eval a X.env)] := by rfl) (hf : ∀ x, foldedSetIterable (.Call (.Name "enumerate" p) [a] [] pos2) X.env x = pure x := by intro _; rfl) : WS X Γ M (.For (.Tuple elts kk tpos) (.Call (.Name "enumerate" p) [a] [] pos2) body [] pos :: sts) Ψ := by
  refine ws_cons (w1_forEU hp hc hg hm (fun P σ H s m => (h P σ H s m).mono fun vs H1 ⟨ds, M1, P1, ⟨xs, ed, q⟩, z⟩ => ⟨ds, M1, P1, ⟨fun i => Unr X (.Tuple elts kk tpos) body { Ψ with nx := fun Γ' M' => WS X Γ' M' sts Ψ } ((enumD 0 xs).drop i), xs, ed, q, fun i y Γ' M' hy z => ?_, fun Γ' M' z => ?_⟩, z⟩) hs hf)
  · have e := enumD_get xs 0 i y hy
    rw [Nat.zero_add] at e
    exact unr_step e z
  · rw [← enumD_len 0 xs] at z
    exact unr_end z
theorem wu_Z (hp : PassesOwn (model X.prog X.w) X.A X.env X.xe) (hm : X.mg "zip" = none) (h : WA X Γ M [a, b] fun ds M1 => ∃ xs ys : List D, ds = [.tup xs, .tup ys] ∧ xs.length = ys.length ∧ Unr X (.Tuple elts kk tpos) body { Ψ with nx := fun Γ' M' => WS X Γ' M' sts Ψ } (zipD xs ys) Γ M1) (hc : X.calm = true := by rfl) (hg : Gl X "zip" := by rfl)
    (hs : starEach [a, b] X.env = (false, eval a X.env) :: starEach [b] X.env := by rfl) (hpl : (backTo pos2 (starEach [b] X.env)).any (·.1) = false := by rfl) (hf : ∀ x, foldedSetIterable (.Call (.Name "zip" p) [a, b] [] pos2) X.env x = pure x := by intro _; rfl) : WS X Γ M (.For (.Tuple elts kk tpos) (.Call (.Name "zip" p) [a, b] [] pos2) body [] pos :: sts) Ψ := by
  refine ws_cons (w1_forZU hp hc hg hm (fun P σ H s m => (h P σ H s m).mono fun vs H1 ⟨ds, M1, P1, ⟨xs, ys, ed, hl, q⟩, z⟩ => ⟨ds, M1, P1, ⟨fun i => Unr X (.Tuple elts kk tpos) body { Ψ with nx := fun Γ' M' => WS X Γ' M' sts Ψ } ((zipD xs ys).drop i), xs, ys, ed, hl, q, fun i x y Γ' M' hx hy z => unr_step (zipD_get xs ys i x y hx hy) z, fun Γ' M' z => ?_⟩, z⟩) hs hpl hf)
  rw [← zipD_len xs ys hl] at z
  exact unr_end z
end
end Dt

set_option Elab.async false
set_option linter.all false
set_option maxRecDepth 100000
set_option maxHeartbeats 2000000
/-! Dt, part 9: == of like data, states weakened, small rules. -/
namespace Dt
open PySem PySem.Spec PyProof.Rows L2
section
variable {X : Cx} {Γ : Sl} {M : Mem} {Φ : VP} {x y : D} {i j v : Int}
theorem eqv_same {x : D} (h : shp x = true) : PyData.eqv (py x) (py x) = true := SeqAt.eqv_refl _ (SeqAt.canLay_of_shaped (Bool.and_eq_true_iff.mp h).2)
theorem od_neSame (hu : X.A.units + 64 < cLine) (e : x = y) (h : shp x = true) (q : Φ (.bl false) M) : OpD X (compareOp .NotEq) x y M Φ := by
  subst e
  refine od_neD hu (.inl rfl) (.inl rfl) h h ?_
  rw [eqv_same h]
  exact q
theorem od_eqSame (hu : X.A.units + 64 < cLine) (e : x = y) (h : shp x = true) (q : Φ (.bl true) M) : OpD X (compareOp .Eq) x y M Φ := by
  subst e
  refine od_eqD hu (.inl rfl) (.inl rfl) h h ?_
  rw [eqv_same h]
  exact q
theorem od_neF (e : i = j) (q : Φ (.bl false) M) : OpD X (compareOp .NotEq) (.int i) (.int j) M Φ := od_ne (by rw [decide_eq_true e]; exact q)
theorem od_neT (e : i ≠ j) (q : Φ (.bl true) M) : OpD X (compareOp .NotEq) (.int i) (.int j) M Φ := od_ne (by rw [decide_eq_false e]; exact q)
theorem od_powV (hc : 0 ≤ j ∧ j ≤ 1000000 ∧ i.natAbs < 2 ^ 64) (hv : i ^ j.toNat = v) (q : Φ (.int v) M) : OpD X (binaryOp .Pow) (.int i) (.int j) M Φ := od_pow hc (by rw [hv]; exact q)
end
/-! ### slots forgotten -/
def Wk (A B : Sl) : Prop := A.length = B.length ∧ ∀ (i : Nat) (d : D), A[i]? = some (some d) → B[i]? = some (some d)
theorem wkE : Wk [] [] := ⟨rfl, fun _ _ h => h⟩
theorem wkS {x : Option D} {A B : Sl} (h : Wk A B) : Wk (x :: A) (x :: B) := ⟨by rw [List.length_cons, List.length_cons, h.1], fun i d q => by
  cases i with
  | zero => exact q
  | succ i => exact h.2 i d q⟩
theorem wkN {y : Option D} {A B : Sl} (h : Wk A B) : Wk (none :: A) (y :: B) := ⟨by rw [List.length_cons, List.length_cons, h.1], fun i d q => by
  cases i with
  | zero => cases q
  | succ i => exact h.2 i d q⟩
theorem ws_wk {X : Cx} {Γ Γ' : Sl} {M M' : Mem} {sts : List Stmt} {Ψ : Po} (w : Wk Γ' Γ) (hm : M'.Sublist M) (h : WS X Γ' M' sts Ψ) : WS X Γ M sts Ψ := ws_weak h w.1 w.2 hm
theorem getI {ns : List Int} {k : Nat} (h : (k : Int) < ((ns.map D.int).length : Int)) : (ns.map D.int)[k]? = some (.int (ns.getD k 0)) := by
  have h2 : k < ns.length := by
    rw [List.length_map] at h
    omega
  rw [List.getElem?_map, List.getElem?_eq_getElem h2, List.getD_eq_getElem?_getD, List.getElem?_eq_getElem h2]
  rfl
theorem getset {M : Mem} {k : Nat} {x y : Addr × MO} (h : M[k]? = some x) : (M.set k y)[k]? = some y := List.getElem?_set_self (List.getElem?_eq_some_iff.mp h).1
theorem half {x y : Int} (h : (x + y) % 2 = 1) : 2 * (x * y / 2) = x * y := by
  have h2 : x * y % 2 = 0 := by
    rw [Int.mul_emod]
    rcases Int.emod_two_eq x with a | a <;> rcases Int.emod_two_eq y with b | b <;> simp [a, b] <;> omega
  omega
end Dt

set_option Elab.async false
set_option linter.all false
set_option maxRecDepth 100000
set_option maxHeartbeats 2000000
/-! Dt, part 10: the head by facts; a def may stand anywhere (a property's getter too). -/
namespace Dt
open PySem PySem.Spec PyProof.Rows L2
abbrev Fg := PySem.W.Frag
/-- one def: how its function object is found, its parts -/
structure Df where
  loc : Fg → Addr
  nm : Str
  qu : Str
  pa : Arguments
  bo : List Stmt
  sc : Scope
  dv : List He.Dv := []
  kv : List (Str × He.Dv) := []
def seeF (K : Fg) (a : Addr) : He.FnW := (K.lookup a).bind fun o => match o.data with
  | .func g => some (g.name, g.qualname, g.params, g.body, g.scope, g.globals, g.closure, g.builtins)
  | _ => none
def Df.told (d : Df) : He.FnW := some (d.nm, d.qu, d.pa, .stmts d.bo, d.sc, mainGlobals, [], builtinsNs)
def Df.ds (K : Fg) (d : Df) : List V := d.dv.map fun z => z.v K
def Df.ks (K : Fg) (d : Df) : List (Str × V) := d.kv.map fun z => (z.1, z.2.v K)
def Df.good (K : Fg) (d : Df) : Bool := (K.lookup (d.loc K)).any fun o => match o.data with
  | .func g => PySem.W.keepIn K (.ref (d.loc K)) && PySem.W.codeIn K g.code d.qu && He.dflB K g.defaults (d.ds K) && He.kwdB K g.kwdefaults (d.ks K)
  | _ => false
theorem Df.fun_ {K : Fg} {d : Df} (h1 : seeF K (d.loc K) = d.told) (h2 : d.good K = true) : ∃ fd, FunD K d.nm d.qu d.pa d.bo d.sc (d.ds K) (d.ks K) (d.loc K) fd := by
  unfold seeF at h1
  unfold Df.good at h2
  generalize hl : K.lookup (d.loc K) = lo at h1 h2
  cases lo with
  | none => cases h2
  | some ob =>
    obtain ⟨c0, d0, dat, sl0⟩ := ob
    cases dat with
    | func g =>
      obtain ⟨g1, g2, g3, g4, g5, g6, g7, g8, g9, g10, g11, g12, g13, g14, g15⟩ := g
      have z : (some (g1, g2, g3, g4, g5, g6, g7, g15) : He.FnW) = d.told := h1
      simp only [Df.told, Option.some.injEq, Prod.mk.injEq] at z
      obtain ⟨r1, r2, r3, r4, r5, r6, r7, r8⟩ := z
      have y : (PySem.W.keepIn K (.ref (d.loc K)) && PySem.W.codeIn K g13 d.qu && He.dflB K g8 (d.ds K) && He.kwdB K g9 (d.ks K)) = true := h2
      simp only [Bool.and_eq_true] at y
      obtain ⟨⟨⟨y1, y2⟩, y3⟩, y4⟩ := y
      subst r1 r2 r3 r4 r5 r6 r7 r8
      refine ⟨_, ⟨⟨c0, d0, g8, g9, g10, g11, g12, g13, g14, sl0, rfl, hl, y2, He.dflB_ok y3, He.kwdB_ok y4⟩, y1⟩⟩
    | _ => cases h2
/-- what the head tells -/
structure Told (fa : List He.Fa) (fn : List Df) (ex : Fg → Bool) (K : Fg) : Prop where
  fact : ∀ f, f ∈ fa → f.ok K = true
  defn : ∀ d, d ∈ fn → ∃ fd, FunD K d.nm d.qu d.pa d.bo d.sc (d.ds K) (d.ks K) (d.loc K) fd
  more : ex K = true
abbrev AlP : Type := Bool × List He.FnW
def lookP (fa : List He.Fa) (fn : List Df) (ex : Fg → Bool) (K : Fg) : AlP := (fa.all (fun f => f.ok K) && fn.all (fun d => d.good K) && ex K, fn.map fun d => seeF K (d.loc K))
def wantP (fn : List Df) : AlP := (true, fn.map Df.told)
theorem told_of {fa : List He.Fa} {fn : List Df} {ex : Fg → Bool} {K : Fg} (h : lookP fa fn ex K = wantP fn) : Told fa fn ex K := by
  have h1 : (fa.all (fun f => f.ok K) && fn.all (fun d => d.good K) && ex K) = true := congrArg Prod.fst h
  have h2 : fn.map (fun d => seeF K (d.loc K)) = fn.map Df.told := congrArg Prod.snd h
  simp only [Bool.and_eq_true, List.all_eq_true] at h1
  obtain ⟨⟨a1, a2⟩, a3⟩ := h1
  exact ⟨a1, fun d hd => Df.fun_ (List.map_inj_left.mp h2 d hd) (a2 d hd), a3⟩
def hookP (n : Nat) (fa : List He.Fa) (fn : List Df) (ex : Fg → Bool) : PySem.W.Hook where
  α := AlP
  obs := fun s => lookP fa fn ex (He.frG s.heap.get? (He.asD s.heap.get? n))
  val := fun _ => wantP fn
  says := fun _ h => ∃ K : Fg, K.In h ∧ Told fa fn ex K
  of := fun _ _ e => ⟨_, He.frG_in, told_of e⟩
  keeps := fun _ _ _ ⟨K, hK, c⟩ k => ⟨K, PySem.W.Frag.In.keeps hK k, c⟩
def obP (n : Nat) (fa : List He.Fa) (fn : List Df) (ex : Fg → Bool) (s : PySem.W.SharedT) : AlP := lookP fa fn ex (He.frG (HandSHeadRun.getT s) (He.asD (HandSHeadRun.getT s) n))
theorem obP_eq {n : Nat} {fa : List He.Fa} {fn : List Df} {ex : Fg → Bool} (s : PySem.W.SharedT) : obP n fa fn ex s = (hookP n fa fn ex).obs s.abs := by
  have e : HandSHeadRun.getT s = s.abs.heap.get? := funext (HandSHeadRun.getT_eq s)
  unfold obP
  rw [e]
  rfl
/-! ### properties -/
def proA (K : Fg) (C m : Str) : Addr := He.ma K (He.ga K C) m
def getA (K : Fg) (C m : Str) : Addr := match PySem.W.recIn K (proA K C m) "property" with
  | some (.ref g :: _) => g
  | _ => 0
def propB (K : Fg) (C m : Str) : Bool := He.eqO (PySem.W.findIn K (.ref (He.ga K C)) m) (some (some (.ref (proA K C m)))) && He.eqO (PySem.W.specialIn K (.ref (proA K C m)) "__get__") (some (some (.builtin "property.__get__"))) && decide (PySem.W.takesIn K (.ref (proA K C m)) = some true) && (match PySem.W.recIn K (proA K C m) "property" with
  | some (.ref _ :: _) => true
  | _ => false)
theorem propB_ok {K : Fg} {C m : Str} (h : propB K C m = true) : PropOf K (He.ga K C) m (proA K C m) (getA K C m) := by
  unfold propB at h
  rw [Bool.and_eq_true, Bool.and_eq_true, Bool.and_eq_true] at h
  obtain ⟨⟨⟨h1, h2⟩, h3⟩, h4⟩ := h
  refine ⟨He.eqO_ok h1, He.eqO_ok h2, of_decide_eq_true h3, ?_⟩
  unfold getA
  split at h4
  · rename_i g rest e
    rw [e]
    exact ⟨rest, rfl⟩
  · cases h4
/-- where defs stand -/
def locG (x : Str) (K : Fg) : Addr := He.ga K x
def locM (C m : Str) (K : Fg) : Addr := He.ma K (He.ga K C) m
def locP (C m : Str) (K : Fg) : Addr := getA K C m
/-! ### from facts to what the walks take -/
section
variable {P : Program} {w : World} {K : Fg} {h base : Heap} {mg : Str → Option Value} {k : Nat} {x C m qual : Str} {params : Arguments} {body : List Stmt} {scope : Scope} {fd : FuncData} {ps : List Str} {S : DS}
theorem hasFn (X : K.In h) (G : h.Ns mainGlobals mg) (F : FunD K x qual params body scope [] [] (locG x K) fd) (b : Binds K fd ps []) (g : (He.Fa.glo x).ok K = true) (F1 : FnOk P w K mg base CX0 k (locG x K) fd ps (spOf K S)) : HasFn P w K mg base k x S := ⟨_, fd, ps, F1, He.glo_ok X G g, F.kp, b⟩
theorem hasMe {nm : Str} (F : FunD K nm qual params body scope [] [] (locM C m K) fd) (b : Binds K fd ps []) (g : (He.Fa.meth C m).ok K = true) (F1 : FnOk P w K mg base CX0 k (locM C m K) fd ps (spOf K S)) : HasMe P w K mg base k (He.ga K C) m S := ⟨_, fd, ps, F1, He.meth_ok g, b⟩
theorem hasMk {nm : Str} (X : K.In h) (G : h.Ns mainGlobals mg) (F : FunD K nm qual params body scope [] [] (locM C "__init__" K) fd) (b : Binds K fd ps []) (g : (He.Fa.mkr C).ok K = true) (g2 : (He.Fa.glo C).ok K = true) (F1 : FnOk P w K mg base CX0 k (locM C "__init__" K) fd ps (spOf K S)) : HasMk P w K mg base k (He.ga K C) C S := ⟨_, fd, ps, F1, He.mkr_ok g, He.glo_ok X G g2, b⟩
theorem hasPr {nm : Str} (F : FunD K nm qual params body scope [] [] (locP C m K) fd) (b : Binds K fd ps []) (g : propB K C m = true) (F1 : FnOk P w K mg base CX0 k (locP C m K) fd ps (spOf K S)) : HasPr P w K mg base k (He.ga K C) m S := ⟨_, _, fd, ps, F1, propB_ok g, b⟩
end
end Dt

set_option Elab.async false
set_option linter.all false
set_option maxRecDepth 100000
set_option maxHeartbeats 2000000
/-! Dt, part 11: != by an own __eq__; isinstance of own classes; ranges turn by turn. -/
namespace Dt
open PySem PySem.Spec PyProof.Rows L2
section
variable {Mo : Model} {prog : Program} {w : World} {A : Around} {E : Value → Shared → Prop} {s : Shared} {K : PySem.W.Frag} {x C f : Addr} {ox : Obj} {od : Option Obj} {b : Value}
theorem neBound {args : List Value} {Q : Option Value → Shared → Prop} (X : K.In s.heap) (I : PySem.W.InstAt s.heap x ox C od) (hs : PySem.W.findIn K (.ref C) "__ne__" = some (some (.builtin "object.__ne__")))
    (h : wpAny Mo A (call (.builtin "object.__ne__") (.ref x :: args)) (fun v => Q (some v)) E s) : wpAny Mo A (callSpecialIfBound? (.ref x) "__ne__" args) Q E s := by
  have last : wpAny Mo A (call (.builtin "object.__ne__") ([.ref x] ++ args) >>= fun v => pure (some v)) Q E s := wpAny_bind (wpAny_mono h (fun _ _ z => wpAny_pure z) fun _ _ z => z)
  simp only [callSpecialIfBound?, bindSpecialIfBound?]
  refine wpAny_holding (wpAny_bind (wpAny_bind (wpAny_bind (I.type.here ((PySem.W.looks_findIn X hs).here (wpAny_bind (wpAny_askSetting (wpAny_ite ?_))))))))
  split
  · exact wpAny_bind (wpAny_of_eq (F.cmp_object.ne.bind _) (wpAny_pure (by exact last)))
  · exact wpAny_tryCatch (wpAny_bind (wpAny_of_eq (F.cmp_object.ne.bind _) (wpAny_pure (by exact last))))
theorem neEntry {Q : PySem.Fin → Shared → Prop} (X : K.In s.heap) (I : PySem.W.InstAt s.heap x ox C od) (he : PySem.W.findIn K (.ref C) "__eq__" = some (some (.ref f))) (hf : PySem.W.isFn K (.ref f) = true) (hu : A.units < cLine)
    (h : wpAny (model prog w) A (call (.ref f) [.ref x, b]) (fun v s' => ∃ k, v = .bool k ∧ Q (.done (.ret (.bool (!k)))) s') E s) : wpAny (model prog w) A (Builtin.«object.__ne__» ⟨[.ref x, b], []⟩) Q E s := by
  obtain ⟨hh, g, d, t, os⟩ := s
  unfold Builtin.«object.__ne__»
  repeat (first
    | with_reducible refine wpAny_cRoomFor hu ?_
    | (refine wpAny_bind (m := callSpecialIfBound? (.ref x) (Str.ofString "__eq__") [b]) (PySem.W.ifBound_K X I he hf (wpAny_mono h (fun r s' hr => by
        obtain ⟨k, rfl, hq⟩ := hr
        repeat (first | exact hq | exact wpAny_pure hq | exact wpAny_truthy_bool hq | (refine wpAny_bind (m := truthy (.bool _)) (wpAny_truthy_bool ?_)) | wp_step)) fun _ _ z => z)))
    | wp_step)
theorem neCall {Q : Value → Shared → Prop} (X : K.In s.heap) (I : PySem.W.InstAt s.heap x ox C od) (hm : PySem.W.mroIn K C (.type "object") = some true) (he : PySem.W.findIn K (.ref C) "__eq__" = some (some (.ref f))) (hf : PySem.W.isFn K (.ref f) = true) (hu : A.in1.units < cLine)
    (h : wpAny (model prog w) A.in1 (call (.ref f) [.ref x, b]) (fun v s' => ∃ k, v = .bool k ∧ Q (.bool (!k)) s') E s) : wpAny (model prog w) A (call (.builtin "object.__ne__") [.ref x, b]) Q E s := by
  refine wpAny_call (codeAny_call_builtin F.cmp_object.ne.plain F.cmpEntry_ne (PySem.W.check_slot F.cmpKind_ne F.cmpSplit_ne (I.type.andThen (PySem.W.looks_mroIn X hm)) (F.cmpArgs_ne _ _) (neEntry (A := A.in1) X I he hf hu (wpAny_mono h (fun v s' ⟨k, e, q⟩ => ⟨k, e, ?_⟩) fun _ _ z => z))))
  first | exact q | exact wpAny_pure q | exact ⟨_, rfl, q⟩
theorem neOwn {Q : Value → Shared → Prop} (X : K.In s.heap) (I : PySem.W.InstAt s.heap x ox C od) (hb : PySem.W.Looks (model prog w) s.heap (typeOf b) (.ref C)) (hm : PySem.W.mroIn K C (.type "object") = some true) (hn : PySem.W.findIn K (.ref C) "__ne__" = some (some (.builtin "object.__ne__")))
    (he : PySem.W.findIn K (.ref C) "__eq__" = some (some (.ref f))) (hf : PySem.W.isFn K (.ref f) = true) (hu : A.units + 1 < cLine)
    (h : wpAny (model prog w) A.in1 (call (.ref f) [.ref x, b]) (fun v s' => ∃ k, v = .bool k ∧ Q (.bool (!k)) s') E s) : wpAny (model prog w) A (compareOp .NotEq (.ref x) b) Q E s := by
  have one : wpAny (model prog w) A (tryCompare (.ref x) "__ne__" b) (fun r s' => ∃ v, r = some v ∧ Q v s') E s := by
    unfold tryCompare
    refine wpAny_bind (neBound X I hn (neCall X I hm he hf hu (wpAny_mono h (fun v s' ⟨k, e, q⟩ => ⟨k, e, wpAny_pure ⟨_, rfl, q⟩⟩) fun _ _ z => z)))
  unfold compareOp richCompare
  simp only [oneThing_ref, cmpInfo_NotEq]
  refine wpAny_holding (wpAny_bind (wpAny_cRoomFor (Nat.lt_of_succ_lt hu) ?_))
  refine wpAny_bind (I.type.here (wpAny_bind (hb.here ?_)))
  rw [show (Value.ref C != Value.ref C) = false from by simp]
  simp only [Bool.false_eq_true, if_false]
  refine wpAny_bind (wpAny_pure ?_)
  simp only [Bool.false_eq_true, if_false]
  refine wpAny_bind (wpAny_mono one (fun r s' z => ?_) fun _ _ z => z)
  obtain ⟨v, rfl, hq⟩ := z
  exact wpAny_pure hq
end
section
variable {X : Cx} {Γ : Sl} {M : Mem} {Φ : VP} {x y d : D} {k : Nat} {C : Addr} {fs gs : List (Str × D)} {S : DS}
/-- the method runs within a builtin -/
theorem run_me1 {f : Addr} {fd : FuncData} {ps : List Str} {P H : Hp} {vs : List V} {us : List Value} {ds : List D} {pins : List (Addr × Obj)} {σ : L2.St} {s : Shared} (F : FnOk X.prog X.w X.K X.mg X.base CX0 k f fd ps (spOf X.K S)) (hr : Room (k + 1) X.A) (hb : Binds X.K fd ps []) (I : Inv X pins σ H s) (r : Vals vs us) (i : IsDs X.K P vs ds) (m : MOk X.K M P H) (h : S ds M Φ) :
    wpAny (model X.prog X.w) X.A.in1 (call (.ref f) us) (EP X pins σ (Fin X.K P Φ)) X.xe s := by
  have z := sp_of (E := E0) i m h
  have hl : (us ++ []).length = ps.length := by
    rw [List.append_nil, ← r.length, ← F.len _ _ _ _ z, List.append_nil]
  refine wpAny_call (codeAny_mono (F.run X.A.in1 X.stack s H ⟨us, []⟩ (us ++ []) (vs ++ []) (Fin X.K P Φ) E0 hr.in1 I.env0.in1 (hb s us I.kIn hl) (r.append .nil) z) fun rr s' hq => ?_)
  cases rr with
  | error e => exact (pass0 (X := X) pins σ H s e s' I hq)
  | ok fl =>
    cases fl with
    | ret u => exact I.after hq
    | next => exact False.elim hq
    | brk => exact False.elim hq
    | cont => exact False.elim hq
structure NeF (K : PySem.W.Frag) (C : Addr) : Prop where
  mro : PySem.W.mroIn K C (.type "object") = some true
  ne : PySem.W.findIn K (.ref C) "__ne__" = some (some (.builtin "object.__ne__"))
/-- a != b, both of one class, by the class's own __eq__ -/
theorem od_ownNe (F : HasMe X.prog X.w X.K X.mg X.base k C "__eq__" S) (hN : NeF X.K C) (hr : Room (k + 1) X.A) (ho : ObjD M x C fs) (ho2 : ObjD M y C gs) (h : S [x, y] M fun r M1 => ∃ b, r = .bl b ∧ Φ (.bl (!b)) M1) : OpD X (compareOp .NotEq) x y M Φ := fun P H a b m ia ib pins σ s u w I r1 r2 => by
  obtain ⟨f, fd, ps, F1, hm, hb⟩ := F
  obtain ⟨a1, dx, od, rfl, rfl, J⟩ := inst_of ho m ia I r1
  obtain ⟨a2, dx2, od2, rfl, rfl, J2⟩ := inst_of ho2 m ib I r2
  refine neOwn I.kIn J J2.type hN.mro hN.ne hm.at_ hm.fn (by have := hr.units; omega) (thn (run_me1 (vs := [.ref a1, .ref a2]) F1 hr hb I (.cons rfl (.cons rfl .nil)) (.cons ia (.cons ib .nil)) m h) fun u2 s2 ⟨v2, H2, I2, rv2, d2, M2, P2, ⟨k2, e2, q⟩, e3, m2, i2⟩ => ?_)
  subst e2
  cases i2
  cases rv2
  exact ⟨k2, rfl, .bl (!k2), H2, I2, rfl, _, M2, P2, q, e3, m2, .bl⟩
end
end Dt

set_option Elab.async false
set_option linter.all false
set_option maxRecDepth 100000
set_option maxHeartbeats 2000000
/-! Dt, part 12: isinstance with own classes; ranges turn by turn; more facts of the head. -/
namespace Dt
open PySem PySem.Spec PyProof.Rows L2
/-- what isinstance asks of an own class -/
structure IsF (K : PySem.W.Frag) (C : Addr) : Prop where
  cls : Cls K C
  own : PySem.W.findIn K (.ref C) "__class__" = some (some (.builtin "object.__class__"))
  get : PySem.W.specialIn K (.builtin "object.__class__") "__get__" = some (some (.builtin "getset_descriptor.__get__"))
  tak : PySem.W.takesIn K (.builtin "object.__class__") = some true
  mro : PySem.W.mroIn K C (.type "object") = some true
theorem kit_self {K : PySem.W.Frag} {C : Addr} : PySem.W.kitOne K (.ref C) (.ref C) = some true := by
  unfold PySem.W.kitOne
  rw [if_pos (by simp)]
section
variable {X : Cx} {Γ : Sl} {M : Mem} {Φ : VP} {d : D} {C C' : Addr} {fs : List (Str × D)} {b : Bool} {t n : String}
theorem IsF.ty {K : PySem.W.Frag} {P H : Hp} {v : V} (hI : IsF K C) (ho : ObjD M d C fs) (m : MOk K M P H) (i : IsD K P v d) : TyX K H v (.ref C) := by
  obtain ⟨a, dx, xs, rfl, ha, hx⟩ := ho.at_ m i
  exact .base (.ins ha hI.cls hI.own hI.get hI.tak hI.mro)
/-- isinstance(o, C) of an own object -/
theorem cd_isiC (ho : ObjD M d C fs) (hI : IsF X.K C) (hk : PySem.W.kitOne X.K (.ref C) (.ref C') = some b) (q : Φ (.bl b) M) : CaD X (.builtin "isinstance") [d, .adr C'] M Φ := cd_of call_isi fun P H vs m h => by
  obtain ⟨v, v2, rfl, hv, hv2⟩ := h.un2
  cases hv2
  exact ⟨v, .ref C', _, _, b, rfl, .own C', hI.ty ho m hv, hk, .one q m .bl⟩
theorem cd_isiCT (ho : ObjD M d C fs) (hI : IsF X.K C) (hk : PySem.W.kitOne X.K (.ref C) (.type n) = some b) (q : Φ (.bl b) M) : CaD X (.builtin "isinstance") [d, .ty n] M Φ := cd_of call_isi fun P H vs m h => by
  obtain ⟨v, v2, rfl, hv, hv2⟩ := h.un2
  cases hv2
  exact ⟨v, .ty n, _, _, b, rfl, .ty n, hI.ty ho m hv, hk, .one q m .bl⟩
/-- .. of plain data -/
theorem cd_isiTC (ht : tyD d = some t) (hk : PySem.W.kitOne X.K (.type t) (.ref C') = some b) (q : Φ (.bl b) M) : CaD X (.builtin "isinstance") [d, .adr C'] M Φ := cd_of call_isi fun P H vs m h => by
  obtain ⟨v, v2, rfl, hv, hv2⟩ := h.un2
  cases hv2
  exact ⟨v, .ref C', _, _, b, rfl, .own C', tyX_of m hv ht, hk, .one q m .bl⟩
end
/-! ### ranges turn by turn -/
def rngD : Int → Nat → List D
  | _, 0 => []
  | s, n + 1 => .int s :: rngD (s + 1) n
theorem rngD_get : ∀ (n i : Nat) (s : Int), i < n → (rngD s n)[i]? = some (.int (s + (i : Int)))
  | 0, i, s, h => absurd h (Nat.not_lt_zero _)
  | n + 1, 0, s, h => by
    show some (D.int s) = some (.int (s + ((0 : Nat) : Int)))
    rw [show s + ((0 : Nat) : Int) = s by omega]
  | n + 1, i + 1, s, h => by
    have z := rngD_get n i (s + 1) (by omega)
    show (rngD (s + 1) n)[i]? = _
    rw [z, show s + 1 + (i : Int) = s + ((i + 1 : Nat) : Int) by omega]
theorem rngD_len : ∀ (n : Nat) (s : Int), (rngD s n).length = n
  | 0, _ => rfl
  | n + 1, s => by
    show (rngD (s + 1) n).length + 1 = n + 1
    rw [rngD_len n]
section
variable {X : Cx} {Γ : Sl} {M : Mem} {tg a : Expr} {body sts : List Stmt} {Ψ : Po} {pos p pos2 : Pos}
theorem wu_R (n : Nat) (hp : PassesOwn (model X.prog X.w) X.A X.env X.xe) (hm : X.mg "range" = none) (h : WA X Γ M [a] fun ds M1 => ds = [.int (n : Int)] ∧ n < 2 ^ 40 ∧ Unr X tg body { Ψ with nx := fun Γ' M' => WS X Γ' M' sts Ψ } (rngD 0 n) Γ M1) (hc : X.calm = true := by rfl) (hg : Gl X "range" := by rfl)
    (hs : starEach [a] X.env = [(false, eval a X.env)] := by rfl) (hf : ∀ x, foldedSetIterable (.Call (.Name "range" p) [a] [] pos2) X.env x = pure x := by intro _; rfl) : WS X Γ M (.For tg (.Call (.Name "range" p) [a] [] pos2) body [] pos :: sts) Ψ := by
  refine ws_cons (w1_forR1 hp hc hg hm (fun P σ H s m => (h P σ H s m).mono fun vs H1 ⟨ds, M1, P1, ⟨ed, hn, q⟩, z⟩ => ⟨ds, M1, P1, ⟨fun i => Unr X tg body { Ψ with nx := fun Γ' M' => WS X Γ' M' sts Ψ } ((rngD 0 n).drop i), (n : Int), ed, by omega, by omega, q, fun i Γ' M' hi z => ?_, fun Γ' M' z => ?_⟩, z⟩) hs hf)
  · have e := rngD_get n i 0 (by omega)
    rw [Int.zero_add] at e
    exact unr_step e z
  · have e : ((n : Int)).toNat = (rngD 0 n).length := by
      rw [rngD_len]
      omega
    rw [e] at z
    exact unr_end z
end
/-! ### facts of the head -/
def isB (K : Fg) (C : Str) : Bool := He.eqO (PySem.W.findIn K (.ref (He.ga K C)) "__class__") (some (some (.builtin "object.__class__"))) && He.eqO (PySem.W.specialIn K (.builtin "object.__class__") "__get__") (some (some (.builtin "getset_descriptor.__get__"))) && decide (PySem.W.takesIn K (.builtin "object.__class__") = some true) && decide (PySem.W.mroIn K (He.ga K C) (.type "object") = some true)
theorem isB_ok {K : Fg} {C : Str} (c : Cls K (He.ga K C)) (h : isB K C = true) : IsF K (He.ga K C) := by
  unfold isB at h
  rw [Bool.and_eq_true, Bool.and_eq_true, Bool.and_eq_true] at h
  obtain ⟨⟨⟨h1, h2⟩, h3⟩, h4⟩ := h
  exact ⟨c, He.eqO_ok h1, He.eqO_ok h2, of_decide_eq_true h3, of_decide_eq_true h4⟩
def neB (K : Fg) (C : Str) : Bool := He.eqO (PySem.W.findIn K (.ref (He.ga K C)) "__ne__") (some (some (.builtin "object.__ne__"))) && decide (PySem.W.mroIn K (He.ga K C) (.type "object") = some true)
theorem neB_ok {K : Fg} {C : Str} (h : neB K C = true) : NeF K (He.ga K C) := by
  unfold neB at h
  rw [Bool.and_eq_true] at h
  exact ⟨of_decide_eq_true h.2, He.eqO_ok h.1⟩
end Dt

set_option Elab.async false
set_option linter.all false
set_option maxRecDepth 100000
set_option maxHeartbeats 2000000
/-! Dt, part 13: == of a tuple of anything with the empty one. -/
namespace Dt
open PySem PySem.Spec PyProof.Rows L2
section
variable {X : Cx} {M : Mem} {Φ : VP}
theorem od_eqT0 {xs : List D} (hu : X.A.units < cLine) (q : Φ (.bl xs.isEmpty) M) : OpD X (compareOp .Eq) (.tup xs) (.tup []) M Φ := fun P H a b m ia ib pins σ s u w I r1 r2 => by
  cases ia with
  | @tup a1 vs _ hs hl hi =>
    cases ib with
    | @tup a2 vs2 _ hs2 hl2 hi2 =>
      cases r1
      cases r2
      obtain ⟨its, rv, pl, _⟩ := I.tuple (Same.tupS m.ex hs)
      obtain ⟨its2, rv2, pl2, _⟩ := I.tuple (Same.tupS m.ex hs2)
      have e2 : its2 = [] := List.length_eq_zero_iff.mp (by rw [← rv2.length, hl2]; rfl)
      subst e2
      refine (SeqAt.RcAt.tuples (A := X.A) (s := s) (e := fun _ => true) pl pl2 hu (fun j h1 h2 => absurd h2 (Nat.not_lt_zero _))) X.prog X.w X.xe _ ?_
      refine ⟨.bl xs.isEmpty, H, I, ?_, .one q m .bl⟩
      have hlen : its.length = xs.length := by rw [← rv.length, hl]
      show Value.bool _ = Value.bool _
      congr 1
      cases xs with
      | nil =>
        have e3 : its = [] := List.length_eq_zero_iff.mp (by rw [hlen]; rfl)
        subst e3
        rfl
      | cons x r =>
        cases its with
        | nil => simp at hlen
        | cons y z => simp
end
end Dt

set_option Elab.async false
set_option linter.all false
set_option maxRecDepth 100000
set_option maxHeartbeats 2000000
/-! Dt, part 14: lists of pairs of numbers. -/
namespace Dt
open PySem PySem.Spec PyProof.Rows L2
def pD (p : Int × Int) : D := .tup [.int p.1, .int p.2]
def psD (ps : List (Int × Int)) : D := .lst (ps.map pD)
theorem eqv_p (a b : Int × Int) : PyData.eqv (py (pD a)) (py (pD b)) = decide (a = b) := by
  obtain ⟨a1, a2⟩ := a
  obtain ⟨b1, b2⟩ := b
  rw [Bool.eq_iff_iff]
  simp only [pD, py, pys, PyData.eqv, PyData.eqvAll, Bool.and_true, Bool.and_eq_true, beq_iff_eq, decide_eq_true_eq, Prod.mk.injEq]
theorem eqv_pys : ∀ as bs : List (Int × Int), PyData.eqvAll (pys (as.map pD)) (pys (bs.map pD)) = decide (as = bs)
  | [], [] => rfl
  | [], b :: bs => rfl
  | a :: as, [] => rfl
  | a :: as, b :: bs => by
    show (PyData.eqv (py (pD a)) (py (pD b)) && PyData.eqvAll (pys (as.map pD)) (pys (bs.map pD))) = _
    rw [eqv_p, eqv_pys as bs, Bool.eq_iff_iff]
    simp only [Bool.and_eq_true, decide_eq_true_eq, List.cons.injEq]
theorem eqv_ps (as bs : List (Int × Int)) : PyData.eqv (py (psD as)) (py (psD bs)) = decide (as = bs) := eqv_pys as bs
theorem any_ps (x : Int × Int) : ∀ ps : List (Int × Int), (pys (ps.map pD)).any (fun z => PyData.eqv z (py (pD x))) = decide (x ∈ ps)
  | [] => rfl
  | a :: as => by
    show (PyData.eqv (py (pD a)) (py (pD x)) || (pys (as.map pD)).any fun z => PyData.eqv z (py (pD x))) = _
    rw [eqv_p, any_ps x as, Bool.eq_iff_iff]
    simp only [Bool.or_eq_true, decide_eq_true_eq, List.mem_cons]
    exact ⟨fun h => h.elim (fun e => .inl e.symm) .inr, fun h => h.elim (fun e => .inl e.symm) .inr⟩
theorem lay_ps : ∀ ps : List (Int × Int), PyData.canLayAll0 (pys (ps.map pD)) = true
  | [] => rfl
  | a :: as => by
    show PyData.canLayAll0 (py (pD a) :: pys (as.map pD)) = true
    simp only [PyData.canLayAll0, lay_ps as, Bool.and_true]
    rfl
theorem ok_ps : ∀ ps : List (Int × Int), okDs (ps.map pD) = true
  | [] => rfl
  | a :: as => by
    show (okD (pD a) && okDs (as.map pD)) = true
    rw [ok_ps as]
    rfl
theorem deep_ps : ∀ ps : List (Int × Int), PyData.depthAll (pys (ps.map pD)) ≤ 1
  | [] => Nat.zero_le _
  | a :: as => by
    show max (PyData.depth (py (pD a))) (PyData.depthAll (pys (as.map pD))) ≤ 1
    exact Nat.max_le.mpr ⟨(show 1 ≤ 1 from Nat.le_refl 1), deep_ps as⟩
theorem shp_ps (ps : List (Int × Int)) : shp (psD ps) = true := by
  unfold shp SeqAt.shaped
  rw [show okD (psD ps) = true from ok_ps ps, Bool.true_and, show PyData.canLay0 (py (psD ps)) = true from lay_ps ps, Bool.true_and]
  refine decide_eq_true ?_
  show PyData.depthAll (pys (ps.map pD)) + 1 ≤ 64
  have := deep_ps ps
  omega
theorem shp_p (p : Int × Int) : shp (pD p) = true := rfl
section
variable {X : Cx} {M : Mem} {Φ : VP} {x y : D} {as bs : List (Int × Int)} {p : Int × Int}
theorem od_eqP (hu : X.A.units + 64 < cLine) (sx : SeenD M x (psD as)) (sy : SeenD M y (psD bs)) (q : Φ (.bl (decide (as = bs))) M) : OpD X (compareOp .Eq) x y M Φ := od_eqD hu sx sy (shp_ps as) (shp_ps bs) (by rw [eqv_ps]; exact q)
theorem od_neP (hu : X.A.units + 64 < cLine) (sx : SeenD M x (psD as)) (sy : SeenD M y (psD bs)) (q : Φ (.bl (!decide (as = bs))) M) : OpD X (compareOp .NotEq) x y M Φ := od_neD hu sx sy (shp_ps as) (shp_ps bs) (by rw [eqv_ps]; exact q)
theorem od_inP (hu : X.A.units + 65 < cLine) (sy : SeenD M y (psD bs)) (q : Φ (.bl (decide (p ∈ bs))) M) : OpD X (compareOp .In) (pD p) y M Φ := fun P H a b m ia ib => by
  obtain ⟨h3, h4⟩ := Bool.and_eq_true_iff.mp (shp_ps bs)
  exact opT_of (op_inD hu) ⟨_, _, dp_of m.ex _ _ rfl ia, sy.dp m ib h3, rfl, h4, .one (by rw [any_ps]; exact q) m .bl⟩
theorem od_notInP (hu : X.A.units + 65 < cLine) (sy : SeenD M y (psD bs)) (q : Φ (.bl (!decide (p ∈ bs))) M) : OpD X (compareOp .NotIn) (pD p) y M Φ := fun P H a b m ia ib => by
  obtain ⟨h3, h4⟩ := Bool.and_eq_true_iff.mp (shp_ps bs)
  exact opT_of (op_notInD hu) ⟨_, _, dp_of m.ex _ _ rfl ia, sy.dp m ib h3, rfl, h4, .one (by rw [any_ps]; exact q) m .bl⟩
end
end Dt

set_option Elab.async false
set_option linter.all false
set_option maxRecDepth 100000
set_option maxHeartbeats 2000000
/-! Dt, part 15: ranges as lists; comprehensions over ranges. -/
namespace Dt
open PySem PySem.Spec PyProof.Rows L2
/-- lo, .., hi -/
def rr (lo hi : Int) : List Int := (List.range (hi - lo + 1).toNat).map fun k : Nat => lo + (k : Int)
/-- the first n from lo on -/
def rn (lo : Int) (n : Nat) : List Int := (List.range n).map fun k : Nat => lo + (k : Int)
theorem rr_rn {lo hi : Int} : rr lo hi = rn lo (hi - lo + 1).toNat := rfl
theorem rn_succ {lo : Int} {n : Nat} : rn lo (n + 1) = rn lo n ++ [lo + (n : Int)] := by
  unfold rn
  rw [List.range_succ, List.map_append]
  rfl
theorem rn_len {lo : Int} {n : Nat} : (rn lo n).length = n := by
  unfold rn
  rw [List.length_map, List.length_range]
section
variable {X : Cx} {Γ : Sl} {M : Mem} {Φ : VP} {elt : Expr} {scope : Scope} {own : List (Str × Nat)} {pos : Pos}
/-- [elt for x in range(a, b)], a list of one's own -/
theorem lcOwnR2 {x : Str} {px p pos2 : Pos} {j : Nat} {a b : Expr} (hN : X.N.Nodup) (hm : X.mg "range" = none)
    (h : WA X Γ M [a, b] fun ds M1 => ∃ (lo hi : Int) (g : Int → D), ds = [.int lo, .int hi] ∧ (-(2 ^ 20) ≤ lo ∧ hi < 2 ^ 20) ∧ -(2 ^ 60) ≤ hi ∧ lo < 2 ^ 60 ∧ (∀ i : Int, lo ≤ i → i < hi → ∀ l out s H C cl fp, WE (blkOf X scope s H C cl fp) ((wipeD Γ (own.map (·.2))).set j (some (.int i))) ((l, .lst out) :: M1) elt fun z M2 => z = g i ∧ M2 = (l, .lst out) :: M1) ∧
      ∀ l, Φ (.adr l) ((l, .lst ((rn lo (hi - lo).toNat).map g)) :: M1))
    (ok : BlkOk X.N X.env.scope scope own) (hg : ∀ (s : Shared) (H : Hp) (C : Addr) (cl : List (Str × Addr)) (fp : List Addr), PG (X.blk s H scope (compEnvC scope cl C X.env) fp) (.Name x px) (gName j)) (hg0 : Gl X "range" := by rfl) (hj : j ∈ own.map (·.2) := by decide) (hc : X.calm = true := by rfl)
    (hs : ∀ x, foldedSetIterable (.Call (.Name "range" p) [a, b] [] pos2) X.env x = pure x := by intro _; rfl) (hst : starEach [a, b] X.env = [(false, eval a X.env), (false, eval b X.env)] := by rfl) (hst2 : starEach [b] X.env = [(false, eval b X.env)] := by rfl) : WE X Γ M (.ListComp elt [⟨.Name x px, .Call (.Name "range" p) [a, b] [] pos2, [], 0⟩] scope pos) Φ := by
  refine we_lcR2 hN hg0 hm (fun P σ H s m => (h P σ H s m).mono fun vs H1 ⟨ds, M1, P1, ⟨lo, hi, g, ed, hb, hb2, hb3, hstep, q⟩, z⟩ => ⟨ds, M1, P1, ⟨fun i out M' => out = (rn lo i).map g ∧ M' = M1, lo, hi, ed, by omega, ⟨rfl, rfl⟩, ?_, ?_⟩, z⟩) hj ok hc hg hs hst hst2
  · rintro i l out M' hi' ⟨rfl, rfl⟩ s H C cl fp
    refine wts_nil ⟨fun _ s H C cl fp => (hstep (lo + (i : Int)) (by omega) hi' l _ s H C cl fp).mono fun z M2 ⟨hz, hM⟩ => ⟨_, hM, ?_, ?_, rfl⟩, fun z => by cases z⟩
    · rw [List.length_map, rn_len]
      have e : sizeLine = 2 ^ 24 := rfl
      omega
    · rw [rn_succ, List.map_append, hz]
      rfl
  · rintro l out M' ⟨rfl, rfl⟩
    exact q l
end
end Dt

set_option Elab.async false
set_option linter.all false
set_option maxRecDepth 100000
set_option maxHeartbeats 2000000
/-! Dt, part 16: a &= b and its like by the class's plain operator. -/
namespace Dt
open PySem PySem.Spec PyProof.Rows L2
section
variable {prog : Program} {w : World} {A : Around} {E : Value → Shared → Prop} {s : Shared} {K : PySem.W.Frag} {x C f : Addr} {ox : Obj} {od : Option Obj} {b : Value} {op : Operator} {cd : ClassData}
theorem inplFills {Mo : Model} {h : Heap} {nm : String} {add : Bool} (X : K.In h) (hc : PySem.W.clsIn K C = some cd) (hm : cd.mro = [.ref C, .type "object"]) (hi : PySem.W.findIn K (.ref C) (dunderI nm) = some none) (ho : typeLookup (.type "object") (dunderI nm) = pure none) : PySem.W.Looks Mo h (fillsInplaceSlot (.ref C) nm add) false := by
  intro A Q E s k q
  unfold fillsInplaceSlot
  refine wpAny_bind ((PySem.W.looks_clsIn X hc).andThen (f := fun cd => pure cd.mro) .now A _ E s k ?_)
  rw [hm, List.anyM_cons]
  refine wpAny_bind (wpAny_bind (PySem.W.looks_findIn X hi A _ E s k ?_))
  refine wpAny_pure ?_
  rw [if_neg (by decide), List.anyM_cons]
  refine wpAny_bind (wpAny_bind (wpAny_of_eq ho ?_))
  refine wpAny_pure ?_
  rw [if_neg (by decide), List.anyM_nil]
  exact wpAny_pure q
theorem inpl {Q : Value → Shared → Prop} (X : K.In s.heap) (I : PySem.W.InstAt s.heap x ox C od) (hb : PySem.W.Looks (model prog w) s.heap (typeOf b) (.ref C)) (hc : PySem.W.clsIn K C = some cd) (hm : cd.mro = [.ref C, .type "object"])
    (hi : PySem.W.findIn K (.ref C) (dunderI op.info.2) = some none) (ho : typeLookup (.type "object") (dunderI op.info.2) = pure none) (hs : PySem.W.findIn K (.ref C) (PySem.dunder op.info.2) = some (some (.ref f))) (hf : PySem.W.isFn K (.ref f) = true)
    (h : wpAny (model prog w) A (call (.ref f) [.ref x, b]) (PySem.W.CmpBack Q) E s) : wpAny (model prog w) A (inplaceOp op (.ref x) b) Q E s := by
  unfold inplaceOp
  refine wpAny_holding (wpAny_bind (I.type.here (wpAny_bind ((inplFills X hc hm hi ho).here ?_))))
  simp only [Bool.false_eq_true, if_false]
  refine wpAny_bind ?_
  unfold binaryOp1
  refine wpAny_bind (I.type.here (wpAny_bind (hb.here (wpAny_bind ((PySem.W.fills_K X hc hm hs).here ?_)))))
  simp only [beq_self_eq_true, if_true]
  refine wpAny_bind (wpAny_pure ?_)
  simp only [Bool.and_false, Bool.false_eq_true, if_false, Bool.false_and]
  refine wpAny_bind (wpAny_pure ?_)
  simp only [Bool.false_eq_true, if_false]
  refine wpAny_bind (m := tryMethod (.ref x) _ b) ?_
  unfold tryMethod
  refine wpAny_bind (PySem.W.special_fn X I hs (beq_iff_eq.mp hf) (wpAny_mono h (fun v s' hv => ?_) fun _ _ e => e))
  cases v <;> first | exact hv.elim | exact wpAny_pure (wpAny_pure (wpAny_pure hv))
end
/-- a class right under object -/
structure Top2 (K : PySem.W.Frag) (C : Addr) : Prop where
  mro : ∃ cd, PySem.W.clsIn K C = some cd ∧ cd.mro = [.ref C, .type "object"]
def top2B (K : Fg) (C : Str) : Bool := match PySem.W.clsIn K (He.ga K C) with
  | some cd => decide (cd.mro = [.ref (He.ga K C), .type "object"])
  | none => false
theorem top2_ok {K : Fg} {C : Str} (h : top2B K C = true) : Top2 K (He.ga K C) := by
  unfold top2B at h
  cases e : PySem.W.clsIn K (He.ga K C) with
  | none => rw [e] at h; cases h
  | some cd => rw [e] at h; exact ⟨cd, e, of_decide_eq_true h⟩
section
variable {X : Cx} {Γ : Sl} {M : Mem} {x y : D} {k : Nat} {C : Addr} {fs gs : List (Str × D)} {S : DS} {Ψ : Po} {e : Expr} {pos pos' : Pos} {op : Operator}
/-- a op= b, both of one class, no in-place def -/
theorem ws_augO {v : Str} {nm : Str} {d : D} (i : Nat) {sts : List Stmt} (hN : X.N.Nodup) (F : HasMe X.prog X.w X.K X.mg X.base k C nm S) (hnm : PySem.dunder op.info.2 = nm) (hT : Top2 X.K C) (hI : NoAttr X.K C (dunderI op.info.2)) (ho : typeLookup (.type "object") (dunderI op.info.2) = pure none) (hr : Room k X.A)
    (hΓ : Γ[i]? = some (some d)) (h : WE X Γ M e fun y M1 => ObjD M1 d C fs ∧ (∃ gs, ObjD M1 y C gs) ∧ S [d, y] M1 fun r M2 => WS X (Γ.set i (some r)) M2 sts Ψ)
    (hi : X.N[i]? = some v := by rfl) (hx : Loc X.env.scope v := by first | exact Or.inl rfl | exact Or.inr rfl) (hfn : X.fn v = true ∨ X.env.scope.names.lookup v = some .local := by first | exact .inl rfl | exact .inr rfl) : WS X Γ M (.AugAssign (.Name v pos') op e pos :: sts) Ψ := ws_cons fun P σ H s m => by
  obtain ⟨f, fd, ps, F1, hm, hb⟩ := F
  obtain ⟨u0, hu0, iu0⟩ := s.at_ i d hΓ
  have hp : PIp X op (fun a b H1 Q => ∃ P1 M1 d1 d2 gs1, MOk X.K M1 P1 H1 ∧ IsD X.K P1 a d1 ∧ IsD X.K P1 b d2 ∧ ObjD M1 d1 C fs ∧ ObjD M1 d2 C gs1 ∧ ∃ Φ, S [d1, d2] M1 Φ ∧ ∀ z H2, Fin X.K P1 Φ z H2 → Q z H2) := fun pins sh σ' H1 a b va vb Q I ra rb ⟨P1, M1, d1, d2, gs1, mm, ia, ib, o1, o2, Φ, hS, hq⟩ => by
    obtain ⟨a1, dx, od, rfl, rfl, J⟩ := inst_of o1 mm ia I ra
    obtain ⟨a2, dx2, od2, rfl, rfl, J2⟩ := inst_of o2 mm ib I rb
    obtain ⟨cd, hcd, hmro⟩ := hT.mro
    refine inpl I.kIn J J2.type hcd hmro hI ho (by rw [hnm]; exact hm.at_) hm.fn (thn (run_me (vs := [.ref a1, .ref a2]) F1 hr hb I (.cons rfl (.cons rfl .nil)) (.cons ia (.cons ib .nil)) mm hS) fun u2 s2 ⟨v2, H2, I2, rv2, z⟩ => ?_)
    exact SlX.cmpback rv2 ⟨v2, H2, I2, rv2, hq _ _ z⟩
  refine wpS_of (ps_aug hN hi hx pe_wp hp (hf := hfn)) ⟨u0, hu0, (h P σ H s m).mono fun v1 H1 ⟨d2, M1, P1, ⟨o1, ⟨gs1, o2⟩, q⟩, e1, m1, i1⟩ => ⟨P1, M1, d, d2, gs1, m1, iu0.mono e1, i1, o1, o2, _, q, fun z H2 ⟨dz, M2, P2, qz, e2, m2, iz⟩ => ?_⟩⟩
  exact ⟨_, M2, P2, qz, e1.trans e2, ((s.mono (e1.trans e2))).set iz, m2⟩
end
end Dt

set_option Elab.async false
set_option linter.all false
set_option maxRecDepth 100000
set_option maxHeartbeats 2000000
/-! Dt, part 17: lists put together. -/
namespace Dt
open PySem PySem.Spec PyProof.Rows L2
section
variable {X : Cx} {M : Mem} {Φ : VP}
/-- a + b, both lists of one's own -/
theorem od_catO {k k2 : Nat} {l l2 : Addr} {ds es : List D} (hk : M[k]? = some (l, .lst ds)) (hk2 : M[k2]? = some (l2, .lst es)) (hl : ds.length + es.length ≤ sizeLine) (q : Φ (.lst (ds ++ es)) M) : OpD X (binaryOp .Add) (.adr l) (.adr l2) M Φ := fun P H a b m ia ib => by
  cases ia
  cases ib
  obtain ⟨_, xs, h1, h2⟩ := m.get hk
  obtain ⟨_, ys, h3, h4⟩ := m.get hk2
  refine opT_of op_cat ⟨l, l2, xs, ys, rfl, rfl, h1, h3, by rw [h2.1, h4.1]; exact hl, fun p hp => ?_⟩
  obtain ⟨m2, e2⟩ := m.push (o := .lst (xs ++ ys)) hp
  have h5 := h2.append h4
  exact ⟨_, M, _, q, e2, m2, .lst (SqL.of upd_same) h5.1 fun i x d a b => (h5.2 i x d a b).mono e2⟩
/-- .. a new list of one's own -/
theorem od_catOO {k k2 : Nat} {l l2 : Addr} {ds es : List D} (hk : M[k]? = some (l, .lst ds)) (hk2 : M[k2]? = some (l2, .lst es)) (hl : ds.length + es.length ≤ sizeLine) (q : ∀ p, Φ (.adr p) ((p, .lst (ds ++ es)) :: M)) : OpD X (binaryOp .Add) (.adr l) (.adr l2) M Φ := fun P H a b m ia ib => by
  cases ia
  cases ib
  obtain ⟨_, xs, h1, h2⟩ := m.get hk
  obtain ⟨_, ys, h3, h4⟩ := m.get hk2
  refine opT_of op_cat ⟨l, l2, xs, ys, rfl, rfl, h1, h3, by rw [h2.1, h4.1]; exact hl, fun p hp => ?_⟩
  exact ⟨_, _, P, q p, Same.refl P, m.own hp ⟨_, upd_same, h2.append h4⟩, .adr⟩
end
theorem getMap {α : Type} {f : α → D} {L : List α} {i : Nat} {y : D} (h : (L.map f)[i]? = some y) : ∃ z, L[i]? = some z ∧ y = f z := by
  rw [List.getElem?_map] at h
  cases e : L[i]? with
  | none => rw [e] at h; cases h
  | some z =>
    rw [e] at h
    cases h
    exact ⟨z, rfl, rfl⟩
theorem take_flat {α β : Type} {L : List α} {i : Nat} {z : α} (f : α → List β) (h : L[i]? = some z) : (L.take (i + 1)).flatMap f = (L.take i).flatMap f ++ f z := by
  rw [List.take_add_one, h, List.flatMap_append]
  simp
end Dt

set_option Elab.async false
set_option linter.all false
set_option maxRecDepth 100000
set_option maxHeartbeats 2000000
/-! Dt, part 18: bool(o) by an own __bool__. -/
namespace Dt
open PySem PySem.Spec PyProof.Rows L2
section
variable {prog : Program} {w : World} {A : Around} {E : Value → Shared → Prop} {s : Shared}
theorem bool_any {v : Value} {Q : Value → Shared → Prop} (h : wpAny (model prog w) A.in1.in1 (truthy v) (fun b s₁ => Q (.bool b) s₁) E s) : wpAny (model prog w) A (call (.type "bool") [v]) Q E s := by
  refine callType_codes (T := "bool") (Bi := Builtin.«object.__init__») (Q₁ := fun r s₁ => ∃ b, r = Value.bool b ∧ Q r s₁) PySem.F.called_bool (PySem.F.typeCall_bool_1 _) PySem.F.entry_object_init ?_ ?_
  · refine codeAny_of_tree ?_
    show wpAny _ A.in1.in1 (do checkBuiltinCall "bool.__new__" ⟨[.type "bool", v], []⟩; again (.builtin "bool.__new__" ⟨[.type "bool", v], []⟩)) _ _ s
    refine wpAny_bind (wpAny_of_eq (PySem.F.newCall_bool_1 _) (wpAny_pure ⟨plainId_quiet (by decide +kernel) _, codeAny_builtin PySem.F.entry_bool_new ?_⟩))
    rw [Around.under_plainId (by decide +kernel) _]
    have f1 := F.conv_sub_bool
    have h2 : wpAny (model prog w) A.in1.in1 (truthy v) (fun b s₁ => ∃ b', Value.bool b = Value.bool b' ∧ Q (.bool b) s₁) E s := wpAny_mono h (fun b s₁ q => ⟨b, rfl, q⟩) fun _ _ z => z
    obtain ⟨hp, g, d, tk, os⟩ := s
    unfold Builtin.«bool.__new__»
    repeat (any_goals (first | assumption | (with_reducible refine wpAny_bind (m := truthy v) (wpAny_mono h2 (fun b s₁ q => ?_) fun _ _ z => z)) | wp_step))
  · rintro obj s₁ ⟨b, rfl, hq⟩
    have ht : s₁.TypeIs (.bool b) "bool" := rfl
    exact ⟨ht, PySem.F.args_object_init_2 _ _, object_init_meets PySem.F.called_bool.init.lookup PySem.F.called_bool.made (by decide) prog w A.in1 _ s₁ ⟨ht, rfl, hq⟩⟩
end
section
variable {X : Cx} {M : Mem} {Φ : VP} {d : D} {k : Nat} {C : Addr} {fs : List (Str × D)} {S : DS}
theorem run_me2 {f : Addr} {fd : FuncData} {ps : List Str} {P H : Hp} {vs : List V} {us : List Value} {ds : List D} {pins : List (Addr × Obj)} {σ : L2.St} {s : Shared} (F : FnOk X.prog X.w X.K X.mg X.base CX0 k f fd ps (spOf X.K S)) (hr : Room (k + 2) X.A) (hb : Binds X.K fd ps []) (I : Inv X pins σ H s) (r : Vals vs us) (i : IsDs X.K P vs ds) (m : MOk X.K M P H) (h : S ds M Φ) :
    wpAny (model X.prog X.w) X.A.in1.in1 (call (.ref f) us) (EP X pins σ (Fin X.K P Φ)) X.xe s := by
  have z := sp_of (E := E0) i m h
  have hl : (us ++ []).length = ps.length := by
    rw [List.append_nil, ← r.length, ← F.len _ _ _ _ z, List.append_nil]
  have hr2 : Room k X.A.in1.in1 := (show Room (k + 1) X.A.in1 from Room.in1 hr).in1
  refine wpAny_call (codeAny_mono (F.run X.A.in1.in1 X.stack s H ⟨us, []⟩ (us ++ []) (vs ++ []) (Fin X.K P Φ) E0 hr2 I.env0.in1.in1 (hb s us I.kIn hl) (r.append .nil) z) fun rr s' hq => ?_)
  cases rr with
  | error e => exact (pass0 (X := X) pins σ H s e s' I hq)
  | ok fl =>
    cases fl with
    | ret u => exact I.after hq
    | next => exact False.elim hq
    | brk => exact False.elim hq
    | cont => exact False.elim hq
/-- bool(o) -/
theorem cd_boolO (F : HasMe X.prog X.w X.K X.mg X.base k C "__bool__" S) (hr : Room (k + 2) X.A) (ho : ObjD M d C fs) (h : S [d] M fun r M1 => ∃ b, r = .bl b ∧ Φ (.bl b) M1) : CaD X (.type "bool") [d] M Φ := fun P H vs m i pins σ s us I r => by
  obtain ⟨f, fd, ps, F1, hm, hb⟩ := F
  obtain ⟨v, rfl, iv⟩ := i.un1
  obtain ⟨u, rfl, ru⟩ := r.one
  obtain ⟨a, dx, od, rfl, rfl, J⟩ := inst_of ho m iv I ru
  obtain ⟨mm, Fr1⟩ := I.fr
  refine bool_any (PySem.W.truthy_K Fr1 I.ok.mod.kin J hm.at_ hm.fn (thn (run_me2 (vs := [.ref a]) F1 hr hb I (.cons rfl .nil) (.cons iv .nil) m h) fun u2 s2 ⟨v2, H2, I2, r2, d2, M2, P2, ⟨b, eb, q⟩, e2, m2, i2⟩ => ?_))
  subst eb
  cases i2
  cases r2
  exact ⟨.bl b, H2, I2, rfl, _, M2, P2, q, e2, m2, .bl⟩
end
end Dt

set_option Elab.async false
set_option linter.all false
set_option maxRecDepth 100000
set_option maxHeartbeats 2000000
/-! Dt, part 19: a name set to a comprehension, slices, texts, written tables. -/
namespace Dt
open PySem PySem.Spec PyProof.Rows L2
section
variable {X : Cx} {Γ : Sl} {M : Mem} {Ψ : Po} {elt iter : Expr} {ifs : List Expr} {scope : Scope} {own : List (Str × Nat)} {pos spos py : Pos} {sts : List Stmt} {y : Str}
theorem swT (i : Nat) {x : Str} (hN : X.N[i]? = some x) : X.N[i]? = some x := hN
/-- y = [elt for x in range(a) if ..], a list of one's own -/
theorem ws_lcR1 (iy : Nat) {x : Str} {px p pos2 : Pos} {j : Nat} {a : Expr} (hN : X.N.Nodup) (hm : X.mg "range" = none)
    (h : WA X Γ M [a] fun ds M1 => ∃ (J : Nat → List D → Mem → Prop) (n : Int), ds = [.int n] ∧ -(2 ^ 62) ≤ n ∧ n < 2 ^ 62 ∧ J 0 [] M1 ∧
      (∀ (i : Nat) (l : Addr) (out : List D) (M' : Mem), (i : Int) < n → J i out M' → Turn1 X scope ifs elt (J (i + 1)) ((wipeD Γ (own.map (·.2))).set j (some (.int (i : Int)))) l out M') ∧ ∀ l out M', J n.toNat out M' → WS X (Γ.set iy (some (.adr l))) ((l, .lst out) :: M') sts Ψ)
    (ok : BlkOk X.N X.env.scope scope own)
    (hg : ∀ (s : Shared) (H : Hp) (C : Addr) (cl : List (Str × Addr)) (fp : List Addr), PG (X.blk s H scope (compEnvC scope cl C X.env) fp) (.Name x px) (gName j)) (hj : j ∈ own.map (·.2) := by decide)
    (hsw : swapsWith (.ListComp elt [⟨.Name x px, .Call (.Name "range" p) [a] [] pos2, ifs, 0⟩] scope pos) (some (.Name y py)) spos.line X.env = pure true := by exact sw_true rfl rfl rfl (by decide +kernel)) (hc : X.calm = true := by rfl) (hg0 : Gl X "range" := by rfl)
    (hy : X.N[iy]? = some y := by rfl) (hyl : X.env.scope.names.lookup y = some .local := by rfl)
    (hs : ∀ x, foldedSetIterable (.Call (.Name "range" p) [a] [] pos2) X.env x = pure x := by intro _; rfl) (hst : starEach [a] X.env = [(false, eval a X.env)] := by rfl) : WS X Γ M (.Assign [.Name y py] (.ListComp elt [⟨.Name x px, .Call (.Name "range" p) [a] [] pos2, ifs, 0⟩] scope pos) spos :: sts) Ψ := ws_cons fun P σ H s m => by
  refine wpS_of (ps_setLc (i := iy) (tt := tsB X scope ifs) (te := teB X scope elt) hc hN hy hyl hsw (pi_range1 hg0 hm pa_wp hst) ok hg (fun s0 H0 C cl fp => ⟨fun pins sh σ' H' Q I q => q s0 H0 C cl fp pins sh I⟩) (fun s0 H0 C cl fp => ⟨fun pins sh σ' H' Q I q => q s0 H0 C cl fp pins sh I⟩) hs) ?_
  refine (h P σ H s m).mono fun vs H1 ⟨ds, M1, P1, ⟨J, n, hd, hb1, hb2, j0, hstep, hdone⟩, e1, m1, i1⟩ => ?_
  subst hd
  obtain ⟨v, rfl, hv⟩ := i1.un1
  cases hv
  refine ⟨n, rfl, hb1, hb2, fun l hn => lc_range (lo := 0) (n := n.toNat) (fun i => LcInv X.K P1 l (J i)) ⟨[], M1, P1, j0, Same.refl P1, m1.own hn ⟨[], upd_same, .nil⟩⟩ ?_ ?_⟩
  · rintro i H' hi ⟨out, M', P', jj, e', m'⟩
    refine ⟨by rw [wipe_set hj, wipe_wipe], ?_⟩
    refine lc_turn (hstep i l out M' (by omega) jj) e' ((sok_wipe (s.mono (e1.trans e')) (own.map (·.2))).set ?_) m'
    rw [Int.zero_add]
    exact .int
  · rintro H' ⟨out, M', P', jj, e', m'⟩
    exact ⟨_, _, P', hdone l out M' jj, e1.trans e', (s.mono (e1.trans e')).set .adr, m'⟩
/-- y = [elt for x in lst if ..] -/
theorem ws_lcL (iy : Nat) {x : Str} {px : Pos} {j : Nat} (hN : X.N.Nodup)
    (h : WE X Γ M iter fun d M1 => ∃ (J : Nat → List D → Mem → Prop) (xs : List D), d = .lst xs ∧ J 0 [] M1 ∧
      (∀ (i : Nat) (y : D) (l : Addr) (out : List D) (M' : Mem), xs[i]? = some y → J i out M' → Turn1 X scope ifs elt (J (i + 1)) ((wipeD Γ (own.map (·.2))).set j (some y)) l out M') ∧ ∀ l out M', J xs.length out M' → WS X (Γ.set iy (some (.adr l))) ((l, .lst out) :: M') sts Ψ)
    (ok : BlkOk X.N X.env.scope scope own)
    (hg : ∀ (s : Shared) (H : Hp) (C : Addr) (cl : List (Str × Addr)) (fp : List Addr), PG (X.blk s H scope (compEnvC scope cl C X.env) fp) (.Name x px) (gName j)) (hj : j ∈ own.map (·.2) := by decide)
    (hsw : swapsWith (.ListComp elt [⟨.Name x px, iter, ifs, 0⟩] scope pos) (some (.Name y py)) spos.line X.env = pure true := by exact sw_true rfl rfl rfl (by decide +kernel)) (hc : X.calm = true := by rfl)
    (hy : X.N[iy]? = some y := by rfl) (hyl : X.env.scope.names.lookup y = some .local := by rfl)
    (hs : ∀ x, foldedSetIterable iter X.env x = pure x := by intro _; rfl) : WS X Γ M (.Assign [.Name y py] (.ListComp elt [⟨.Name x px, iter, ifs, 0⟩] scope pos) spos :: sts) Ψ := ws_cons fun P σ H s m => by
  refine wpS_of (ps_setLc (i := iy) (tt := tsB X scope ifs) (te := teB X scope elt) hc hN hy hyl hsw (pi_list pe_wp) ok hg (fun s0 H0 C cl fp => ⟨fun pins sh σ' H' Q I q => q s0 H0 C cl fp pins sh I⟩) (fun s0 H0 C cl fp => ⟨fun pins sh σ' H' Q I q => q s0 H0 C cl fp pins sh I⟩) hs) ?_
  refine (h P σ H s m).mono fun v H1 ⟨d, M1, P1, ⟨J, xs, hd, j0, hstep, hdone⟩, e1, m1, i1⟩ => ?_
  subst hd
  cases i1 with
  | @lst a vs _ hq hl hi =>
    refine ⟨a, rfl, ⟨vs, m1.ex.seq hq⟩, fun l hn => lc_list (xs := vs) (fun i => LcInv X.K P1 l (J i)) ⟨[], M1, P1, j0, Same.refl P1, m1.own hn ⟨[], upd_same, .nil⟩⟩ (fun i H' _ ⟨out, M', P', jj, e', m'⟩ => m'.ex.seq (e'.seq hq)) ?_ ?_⟩
    · rintro i x0 H' hx ⟨out, M', P', jj, e', m'⟩
      obtain ⟨y, hy, iy⟩ := IsDs.getV (K := X.K) (P := P1) ⟨hl, hi⟩ hx
      refine ⟨by rw [wipe_set hj, wipe_wipe], ?_⟩
      exact lc_turn (hstep i y l out M' hy jj) e' ((sok_wipe (s.mono (e1.trans e')) (own.map (·.2))).set (iy.mono e')) m'
    · rintro H' ⟨out, M', P', jj, e', m'⟩
      exact ⟨_, _, P', hdone l out M' (by rw [← hl]; exact jj), e1.trans e', (s.mono (e1.trans e')).set .adr, m'⟩
/-- y = [elt for x in tup if ..] -/
theorem ws_lcT (iy : Nat) {x : Str} {px : Pos} {j : Nat} (hN : X.N.Nodup)
    (h : WE X Γ M iter fun d M1 => ∃ (J : Nat → List D → Mem → Prop) (xs : List D), d = .tup xs ∧ J 0 [] M1 ∧
      (∀ (i : Nat) (y : D) (l : Addr) (out : List D) (M' : Mem), xs[i]? = some y → J i out M' → Turn1 X scope ifs elt (J (i + 1)) ((wipeD Γ (own.map (·.2))).set j (some y)) l out M') ∧ ∀ l out M', J xs.length out M' → WS X (Γ.set iy (some (.adr l))) ((l, .lst out) :: M') sts Ψ)
    (ok : BlkOk X.N X.env.scope scope own)
    (hg : ∀ (s : Shared) (H : Hp) (C : Addr) (cl : List (Str × Addr)) (fp : List Addr), PG (X.blk s H scope (compEnvC scope cl C X.env) fp) (.Name x px) (gName j)) (hj : j ∈ own.map (·.2) := by decide)
    (hsw : swapsWith (.ListComp elt [⟨.Name x px, iter, ifs, 0⟩] scope pos) (some (.Name y py)) spos.line X.env = pure true := by exact sw_true rfl rfl rfl (by decide +kernel)) (hc : X.calm = true := by rfl)
    (hy : X.N[iy]? = some y := by rfl) (hyl : X.env.scope.names.lookup y = some .local := by rfl)
    (hs : ∀ x, foldedSetIterable iter X.env x = pure x := by intro _; rfl) : WS X Γ M (.Assign [.Name y py] (.ListComp elt [⟨.Name x px, iter, ifs, 0⟩] scope pos) spos :: sts) Ψ := ws_cons fun P σ H s m => by
  refine wpS_of (ps_setLc (i := iy) (tt := tsB X scope ifs) (te := teB X scope elt) hc hN hy hyl hsw (pi_tup pe_wp) ok hg (fun s0 H0 C cl fp => ⟨fun pins sh σ' H' Q I q => q s0 H0 C cl fp pins sh I⟩) (fun s0 H0 C cl fp => ⟨fun pins sh σ' H' Q I q => q s0 H0 C cl fp pins sh I⟩) hs) ?_
  refine (h P σ H s m).mono fun v H1 ⟨d, M1, P1, ⟨J, xs, hd, j0, hstep, hdone⟩, e1, m1, i1⟩ => ?_
  subst hd
  cases i1 with
  | @tup a vs _ hq hl hi =>
    refine ⟨a, rfl, ⟨vs, Same.tupS m1.ex hq⟩, fun l hn => lc_tup (xs := vs) (fun i => LcInv X.K P1 l (J i)) ⟨[], M1, P1, j0, Same.refl P1, m1.own hn ⟨[], upd_same, .nil⟩⟩ (fun i H' _ ⟨out, M', P', jj, e', m'⟩ => Same.tupS m'.ex (Same.tupS e' hq)) ?_ ?_⟩
    · rintro i x0 H' hx ⟨out, M', P', jj, e', m'⟩
      obtain ⟨y, hy, iy⟩ := IsDs.getV (K := X.K) (P := P1) ⟨hl, hi⟩ hx
      refine ⟨by rw [wipe_set hj, wipe_wipe], ?_⟩
      exact lc_turn (hstep i y l out M' hy jj) e' ((sok_wipe (s.mono (e1.trans e')) (own.map (·.2))).set (iy.mono e')) m'
    · rintro H' ⟨out, M', P', jj, e', m'⟩
      exact ⟨_, _, P', hdone l out M' (by rw [← hl]; exact jj), e1.trans e', (s.mono (e1.trans e')).set .adr, m'⟩
end
/-! ### slices -/
def cutD (xs : List D) (lo hi : Option Int) : List D := (xs.drop (HT.sIx xs.length 0 lo)).take (HT.sIx xs.length xs.length hi - HT.sIx xs.length 0 lo)
theorem isDs_cut {K : PySem.W.Frag} {P : Hp} {xs : List V} {ds : List D} (h : IsDs K P xs ds) (lo hi : Option Int) : IsDs K P (cutV xs lo hi) (cutD ds lo hi) := by
  have hl := h.1
  unfold cutV cutD
  rw [hl]
  refine ⟨by rw [List.length_take, List.length_take, List.length_drop, List.length_drop, hl], fun i x d a b => ?_⟩
  rw [List.getElem?_take, List.getElem?_drop] at a b
  by_cases hlt : i < HT.sIx ds.length ds.length hi - HT.sIx ds.length 0 lo
  · rw [if_pos hlt] at a b
    exact h.2 _ x d a b
  · rw [if_neg hlt] at a
    cases a
/-- a part of a slice -/
def WO (X : Cx) (Γ : Sl) (M : Mem) : Option Expr → (Option Int → Mem → Prop) → Prop
  | none, Φ => Φ none M
  | some e, Φ => WE X Γ M e fun d M1 => ∃ i, d = .int i ∧ Φ (some i) M1
section
variable {X : Cx} {Γ : Sl} {M : Mem} {Φ : VP} {e : Expr} {lo hi : Option Expr} {pos p2 : Pos}
def tO (X : Cx) : Option Expr → TO
  | none => tNoPart
  | some e => tPart (wpT X e)
theorem po_wp : ∀ o : Option Expr, PO X o (tO X o)
  | none => po_none
  | some e => po_some pe_wp
theorem wo_run {o : Option Expr} {F : Option Int → Mem → Prop} {P : Hp} {σ : L2.St} {H : Hp} (h : WO X Γ M o F) (s : SOk X.K Γ P σ) (m : MOk X.K M P H) {Q : Option Int → Hp → Prop} (q : ∀ i M1 P1 H1, F i M1 → Ex P P1 → MOk X.K M1 P1 H1 → Q i H1) : tO X o σ H Q := by
  cases o with
  | none => exact q _ _ P H h (Same.refl P) m
  | some e =>
    refine (h P σ H s m).mono fun v H1 ⟨d, M1, P1, ⟨i, ed, z⟩, e1, m1, i1⟩ => ?_
    subst ed
    cases i1
    exact ⟨i, rfl, q _ _ P1 H1 z e1 m1⟩
/-- xs[a:b], a new list of one's own -/
theorem we_slO (h : WE X Γ M e fun d M1 => WO X Γ M1 lo fun i M2 => WO X Γ M2 hi fun j M3 => ∃ ds, (d = .lst ds ∨ ∃ (k : Nat) (l : Addr), d = .adr l ∧ M3[k]? = some (l, .lst ds)) ∧ ∀ l, Φ (.adr l) ((l, .lst (cutD ds i j)) :: M3)) : WE X Γ M (.Subscript e (.Slice lo hi none p2) pos) Φ := fun P σ H s m => by
  refine wpT_of (pe_slice sl_list pe_wp (po_wp lo) (po_wp hi)) ((h P σ H s m).mono fun v H1 ⟨d, M1, P1, q, e1, m1, i1⟩ => wo_run q (s.mono e1) m1 fun i M2 P2 H2 q2 e2 m2 => wo_run q2 (s.mono (e1.trans e2)) m2 fun j M3 P3 H3 ⟨ds, hd, q3⟩ e3 m3 => ?_)
  have e13 := (e1.trans e2).trans e3
  have i3 := (i1.mono e2).mono e3
  rcases hd with rfl | ⟨k, l, rfl, hk⟩
  · cases i3 with
    | lst hs hl hi => exact ⟨_, _, rfl, m3.ex.seq hs, fun p hp => ⟨_, _, P3, q3 p, e13, m3.own hp ⟨_, upd_same, isDs_cut ⟨hl, hi⟩ i j⟩, .adr⟩⟩
  · cases i3
    obtain ⟨_, xs, h1, h2⟩ := m3.get hk
    exact ⟨_, _, rfl, SqL.of h1, fun p hp => ⟨_, _, P3, q3 p, e13, m3.own hp ⟨_, upd_same, isDs_cut h2 i j⟩, .adr⟩⟩
/-- t[a:b] of a tuple -/
theorem we_slT (h : WE X Γ M e fun d M1 => WO X Γ M1 lo fun i M2 => WO X Γ M2 hi fun j M3 => ∃ ds, d = .tup ds ∧ Φ (.tup (cutD ds i j)) M3) : WE X Γ M (.Subscript e (.Slice lo hi none p2) pos) Φ := fun P σ H s m => by
  refine wpT_of (pe_slice sl_tupA pe_wp (po_wp lo) (po_wp hi)) ((h P σ H s m).mono fun v H1 ⟨d, M1, P1, q, e1, m1, i1⟩ => wo_run q (s.mono e1) m1 fun i M2 P2 H2 q2 e2 m2 => wo_run q2 (s.mono (e1.trans e2)) m2 fun j M3 P3 H3 ⟨ds, hd, q3⟩ e3 m3 => ?_)
  have e13 := (e1.trans e2).trans e3
  have i3 := (i1.mono e2).mono e3
  subst hd
  cases i3 with
  | @tup a xs _ hs hl hi =>
    refine ⟨a, xs, rfl, Same.tupS m3.ex hs, fun hw => ?_, fun _ p hp => ?_⟩
    · have hc : cutD ds i j = ds := by
        unfold cutD
        rw [← hl, hw.1, hw.2, hl, Nat.sub_zero, List.drop_zero, List.take_length]
      rw [hc] at q3
      exact ⟨_, M3, P3, q3, e13, m3, .tup hs hl hi⟩
    · obtain ⟨m4, e4⟩ := m3.push (o := .tup (cutV xs i j)) hp
      have h5 := isDs_cut (K := X.K) (P := P3) ⟨hl, hi⟩ i j
      exact ⟨_, M3, _, q3, e13.trans e4, m4, .tup (SqT.of upd_same) h5.1 fun n x d a b => (h5.2 n x d a b).mono e4⟩
/-- xs[::-1], a new list of one's own -/
theorem we_revO {kk : Nat} {p1 p2 p3 : Pos} (h : WE X Γ M e fun d M1 => ∃ ds, (d = .lst ds ∨ ∃ (k : Nat) (l : Addr), d = .adr l ∧ M1[k]? = some (l, .lst ds)) ∧ ∀ l, Φ (.adr l) ((l, .lst ds.reverse) :: M1)) : WE X Γ M (.Subscript e (.Slice none none (some (.UnaryOp .USub (.Constant (.int 1) kk p1) p2)) p3) pos) Φ := fun P σ H s m => by
  refine wpT_of (pe_revL pe_wp) ((h P σ H s m).mono fun v H1 ⟨d, M1, P1, ⟨ds, hd, q⟩, e1, m1, i1⟩ => ?_)
  have rev : ∀ {xs : List V}, IsDs X.K P1 xs ds → IsDs X.K P1 xs.reverse ds.reverse := fun {xs} z => by
    refine ⟨by rw [List.length_reverse, List.length_reverse, z.1], fun i x d a b => ?_⟩
    have hi : i < xs.length := by
      have := (List.getElem?_eq_some_iff.mp a).1
      rwa [List.length_reverse] at this
    rw [List.getElem?_reverse hi] at a
    rw [List.getElem?_reverse (by rw [← z.1]; exact hi), ← z.1] at b
    exact z.2 _ x d a b
  rcases hd with rfl | ⟨k, l, rfl, hk⟩
  · cases i1 with
    | lst hs hl hi => exact ⟨_, _, rfl, m1.ex.seq hs, fun p hp => ⟨_, _, P1, q p, e1, m1.own hp ⟨_, upd_same, rev ⟨hl, hi⟩⟩, .adr⟩⟩
  · cases i1
    obtain ⟨_, xs, h1, h2⟩ := m1.get hk
    exact ⟨_, _, rfl, SqL.of h1, fun p hp => ⟨_, _, P1, q p, e1, m1.own hp ⟨_, upd_same, rev h2⟩, .adr⟩⟩
end
/-! ### a + b of tuples -/
section
variable {X : Cx} {Γ : Sl} {M : Mem} {Φ : VP}
theorem od_catT {xs ys : List D} (hl : xs.length + ys.length ≤ sizeLine) (q : Φ (.tup (xs ++ ys)) M) : OpD X (binaryOp .Add) (.tup xs) (.tup ys) M Φ := fun P H a b m ia ib => by
  cases ia with
  | @tup a1 vs _ hs hl1 hi1 =>
    cases ib with
    | @tup a2 ws _ hs2 hl2 hi2 =>
      refine opT_of op_catA ⟨a1, a2, vs, ws, rfl, rfl, Same.tupS m.ex hs, Same.tupS m.ex hs2, by rw [hl1, hl2]; exact hl, fun e => ?_, fun _ e => ?_, fun _ _ p hp => ?_⟩
      · subst e
        have : xs = [] := List.length_eq_zero_iff.mp hl1.symm
        subst this
        exact .one q m (.tup hs2 hl2 hi2)
      · subst e
        have : ys = [] := List.length_eq_zero_iff.mp hl2.symm
        subst this
        rw [List.append_nil] at q
        exact .one q m (.tup hs hl1 hi1)
      · obtain ⟨m2, e2⟩ := m.push (o := .tup (vs ++ ws)) hp
        have h5 := IsDs.append (K := X.K) (P := P) ⟨hl1, hi1⟩ ⟨hl2, hi2⟩
        exact ⟨_, M, _, q, e2, m2, .tup (SqT.of upd_same) h5.1 fun n x d a b => (h5.2 n x d a b).mono e2⟩
/-! ### repr of a truth value, str of a number -/
theorem call_reprB : CallR X (.builtin "repr") (fun xs H Q => ∃ b, xs = [.bl b] ∧ Q (.str (if b then "True" else "False")) H) := by
  intro pins s σ H xs us Q I r h
  obtain ⟨b, rfl, q⟩ := h
  obtain ⟨u, rfl, ru⟩ := r.one
  cases ru
  exact PySem.P.repr_of_bool ⟨.str _, H, I.tok _, ⟨_, rfl⟩, q⟩
theorem cd_reprB {b : Bool} (q : Φ (.str (if b then "True" else "False")) M) : CaD X (.builtin "repr") [.bl b] M Φ := cd_of call_reprB fun P H vs m h => by
  obtain ⟨v, rfl, hv⟩ := h.un1
  cases hv
  exact ⟨b, rfl, .one q m .str⟩
theorem cd_strI {i : Int} (hz : i.natAbs.log2 < 1920) (q : Φ (.str (toString i)) M) : CaD X (.type "str") [.int i] M Φ := cd_of call_str_int fun P H vs m h => by
  obtain ⟨v, rfl, hv⟩ := h.un1
  cases hv
  exact ⟨i, rfl, hz, .one q m .str⟩
/-! ### texts -/
theorem od_inSign {c : Nat} {z : Str} (q : Φ (.bl (decide (c ∈ z.cps.toList))) M) : OpD X (compareOp .In) (.str ⟨#[c]⟩) (.str z) M Φ := fun P H a b m ia ib => by
  cases ia
  cases ib
  exact opT_of op_in_sign ⟨c, z, rfl, rfl, .one q m .bl⟩
theorem strs_of {K : PySem.W.Frag} {P : Hp} : ∀ {zs : List Str} {vs : List V}, IsDs K P vs (zs.map D.str) → vs = zs.map V.str
  | [], vs, h => h.unnil
  | b :: bs, vs, h => by
    obtain ⟨v, r, rfl, hv, hr⟩ := IsDs.uncons h
    cases hv
    rw [strs_of hr]
    rfl
theorem inV_strs {x : Str} : ∀ zs : List Str, inV (.str x) (zs.map V.str) = decide (x ∈ zs)
  | [] => rfl
  | z :: zs => by
    have ih := inV_strs (x := x) zs
    show (eqV (.str z) (.str x) || inV (.str x) (zs.map V.str)) = _
    rw [ih, Bool.eq_iff_iff]
    show ((z == x) || decide (x ∈ zs)) = true ↔ _
    simp only [Bool.or_eq_true, beq_iff_eq, decide_eq_true_eq, List.mem_cons]
    exact ⟨fun h => h.elim (fun e => .inl e.symm) .inr, fun h => h.elim (fun e => .inl e.symm) .inr⟩
theorem flat_strs : ∀ zs : List Str, (zs.map V.str).all flatV = true
  | [] => rfl
  | z :: zs => by
    show (flatV (.str z) && (zs.map V.str).all flatV) = true
    rw [flat_strs zs]
    rfl
/-- a text in a tuple of texts -/
theorem od_inTS {x : Str} {zs : List Str} (q : Φ (.bl (decide (x ∈ zs))) M) : OpD X (compareOp .In) (.str x) (.tup (zs.map D.str)) M Φ := fun P H a b m ia ib => by
  cases ia
  cases ib with
  | tup hs hl hi =>
    rw [strs_of ⟨hl, hi⟩] at hs
    exact opT_of op_in_seq ⟨_, _, rfl, .inr (Same.tupS m.ex hs), rfl, flat_strs zs, .one (by rw [inV_strs]; exact q) m .bl⟩
/-! ### written values of the module -/
theorem we_gint {x : Str} {i : Int} {pos : Pos} (hm : ∃ t, X.mg x = some (.int i t)) (h : Φ (.int i) M) (hg : Gl X x := by rfl) (hd : (x == ("__debug__" : Str)) = false := by decide) : WE X Γ M (.Name x pos) Φ := fun P σ H s m => by
  obtain ⟨t, hm⟩ := hm
  exact wpT_of (pe_glob (v := .int i) hg hm ⟨t, rfl⟩ hd) (.one h m .int)
theorem we_gstr {x z : Str} {pos : Pos} (hm : ∃ t, X.mg x = some (.str z t)) (h : Φ (.str z) M) (hg : Gl X x := by rfl) (hd : (x == ("__debug__" : Str)) = false := by decide) : WE X Γ M (.Name x pos) Φ := fun P σ H s m => by
  obtain ⟨t, hm⟩ := hm
  exact wpT_of (pe_glob (v := .str z) hg hm ⟨t, rfl⟩ hd) (.one h m .str)
theorem we_gtup {x : Str} {a : Addr} {zs : List Str} {pos : Pos} (hm : X.mg x = some (.ref a)) (ht : ∀ H : Hp, SqT X.K H a (zs.map V.str)) (h : Φ (.tup (zs.map D.str)) M) (hg : Gl X x := by rfl) (hd : (x == ("__debug__" : Str)) = false := by decide) : WE X Γ M (.Name x pos) Φ := fun P σ H s m =>
  wpT_of (pe_glob (v := .ref a) hg hm rfl hd) (.one h m (.tup (ht P) (by rw [List.length_map, List.length_map]) fun i v d p q => by
    rw [List.getElem?_map] at p q
    cases e : zs[i]? with
    | none => rw [e] at p; cases p
    | some n =>
      rw [e] at p q
      cases p
      cases q
      exact .str))
end
/-! ### comprehensions over a text -/
def signs (x : Str) : List D := x.cps.toList.map fun c => D.str ⟨#[c]⟩
section
variable {X : Cx} {Γ : Sl} {M : Mem} {Φ : VP} {elt iter : Expr} {scope : Scope} {own : List (Str × Nat)} {pos : Pos}
theorem iteT' {p q : Prop} (h : if true = true then p else q) : p := h
theorem iteF' {p q : Prop} (h : if false = true then p else q) : q := h
theorem lcMapS {x : Str} {px : Pos} {j : Nat} (hN : X.N.Nodup) (h : WE X Γ M iter fun d M1 => ∃ (z : Str) (g : Nat → D), d = .str z ∧ z.cps.size < sizeLine ∧ (∀ c, c ∈ z.cps.toList → ∀ l out s H C cl fp, WE (blkOf X scope s H C cl fp) ((wipeD Γ (own.map (·.2))).set j (some (.str ⟨#[c]⟩))) ((l, .lst out) :: M1) elt fun y M2 => y = g c ∧ M2 = (l, .lst out) :: M1) ∧ Φ (.lst (z.cps.toList.map g)) M1)
    (ok : BlkOk X.N X.env.scope scope own) (hg : ∀ (s : Shared) (H : Hp) (C : Addr) (cl : List (Str × Addr)) (fp : List Addr), PG (X.blk s H scope (compEnvC scope cl C X.env) fp) (.Name x px) (gName j)) (hj : j ∈ own.map (·.2) := by decide) (hc : X.calm = true := by rfl)
    (hs : ∀ x, foldedSetIterable iter X.env x = pure x := by intro _; rfl) : WE X Γ M (.ListComp elt [⟨.Name x px, iter, [], 0⟩] scope pos) Φ := we_frz fun P σ H s m => by
  refine wpT_of (pe_lc (tt := tsB X scope []) (te := teB X scope elt) hc hN (pi_str pe_wp) ok hg (fun s0 H0 C cl fp => ⟨fun pins sh σ' H' Q I q => q s0 H0 C cl fp pins sh I⟩) (fun s0 H0 C cl fp => ⟨fun pins sh σ' H' Q I q => q s0 H0 C cl fp pins sh I⟩) hs) ?_
  refine (h P σ H s m).mono fun v H1 ⟨d, M1, P1, ⟨z, g, hd, hz, hstep, hdone⟩, e1, m1, i1⟩ => ?_
  subst hd
  cases i1
  refine ⟨z, rfl, fun l hn => ⟨fun i mm H' => mm = z.cps.size - i ∧ i ≤ z.cps.size ∧ LcInv X.K P1 l (fun out M' => out = (z.cps.toList.take i).map g ∧ M' = M1) H', ⟨_, rfl, Nat.zero_le _, [], M1, P1, ⟨rfl, rfl⟩, Same.refl P1, m1.own hn ⟨[], upd_same, .nil⟩⟩, ?_⟩⟩
  rintro i mm H' ⟨rfl, hi, out, M', P', ⟨rfl, rfl⟩, e', m'⟩
  by_cases hlt : i < z.cps.size
  · refine .inr ⟨hlt, fun H2 => i + 1 ≤ z.cps.size ∧ LcInv X.K P1 l (fun out M2 => out = (z.cps.toList.take (i + 1)).map g ∧ M2 = M') H2, fun H2 ⟨a, b⟩ => ⟨z.cps.size - (i + 1), by omega, rfl, a, b⟩, ?_⟩
    rintro x0 H2 ⟨rfl, c, hcc, rfl⟩
    have hc2 : z.cps.toList[i]? = some c := by rw [← hcc]; simp
    refine ⟨by rw [wipe_set hj, wipe_wipe], ?_⟩
    have hmem := List.mem_of_getElem? hc2
    have tn : Turn1 X scope [] elt (fun out M2 => i + 1 ≤ z.cps.size ∧ out = (z.cps.toList.take (i + 1)).map g ∧ M2 = M') ((wipeD Γ (own.map (·.2))).set j (some (.str ⟨#[c]⟩))) l ((z.cps.toList.take i).map g) M' := fun s1 H1 C1 cl1 fp1 =>
      wts_nil ⟨fun _ s2 H2 C2 cl2 fp2 => (hstep c hmem l _ s2 H2 C2 cl2 fp2).mono fun y M2 ⟨hy, hM⟩ => ⟨_, hM, by rw [List.length_map, List.length_take, Array.length_toList]; omega, hlt, by rw [List.take_add_one, hc2, List.map_append, hy]; rfl, rfl⟩, fun z => by cases z⟩
    have t2 := lc_turn (P := P1) tn e' ((sok_wipe (s.mono (e1.trans e')) (own.map (·.2))).set (.str (x := ⟨#[c]⟩))) m'
    intro s0 H0 C cl fp pins sh I
    refine thn (t2 s0 H0 C cl fp pins sh I) fun b sh2 ⟨H3, I3, q3⟩ => ⟨H3, I3, ?_⟩
    cases b with
    | false =>
      obtain ⟨o3, M3, P3, ⟨a1, a2⟩, a3⟩ := iteF' q3
      exact iteF ⟨a1, o3, M3, P3, a2, a3⟩
    | true =>
      refine iteT fun s0 H0 C cl fp => (iteT' q3 s0 H0 C cl fp).mono fun y H4 ⟨acc, h4, h5, o3, M3, P3, ⟨a1, a2⟩, a3⟩ => ⟨acc, h4, h5, a1, o3, M3, P3, a2, a3⟩
  · have ei : i = z.cps.size := by omega
    refine .inl ⟨(show z.cps.size ≤ i by omega), _, _, P', ⟨l, _, _, rfl, rfl, ?_⟩, e1.trans e', m', .adr⟩
    have et : z.cps.toList.take i = z.cps.toList := by rw [ei, ← Array.length_toList, List.take_length]
    rw [et]
    exact hdone
end
end Dt

set_option Elab.async false
set_option linter.all false
set_option maxRecDepth 100000
set_option maxHeartbeats 2000000
/-! Dt, part 20: the drawing list of two, lists of numbers. -/
namespace Dt
open PySem PySem.Spec PyProof.Rows L2
section
variable {X : Cx} {Γ : Sl} {M : Mem} {Φ : VP} {e : Expr}
theorem wo_none {F : Option Int → Mem → Prop} (h : F none M) : WO X Γ M none F := h
theorem wo_some {F : Option Int → Mem → Prop} (h : WE X Γ M e fun d M1 => ∃ i, d = .int i ∧ F (some i) M1) : WO X Γ M (some e) F := h
theorem eqv_is : ∀ as bs : List Int, PyData.eqvAll (pys (as.map D.int)) (pys (bs.map D.int)) = decide (as = bs)
  | [], [] => rfl
  | [], b :: bs => rfl
  | a :: as, [] => rfl
  | a :: as, b :: bs => by
    show (PyData.eqv (.int a) (.int b) && PyData.eqvAll (pys (as.map D.int)) (pys (bs.map D.int))) = _
    rw [eqv_is as bs, Bool.eq_iff_iff]
    simp only [PyData.eqv, Bool.and_eq_true, beq_iff_eq, decide_eq_true_eq, List.cons.injEq]
theorem ok_is : ∀ ps : List Int, okDs (ps.map D.int) = true
  | [] => rfl
  | a :: as => by
    show (okD (.int a) && okDs (as.map D.int)) = true
    rw [ok_is as]
    rfl
theorem lay_is : ∀ ps : List Int, PyData.canLayAll0 (pys (ps.map D.int)) = true
  | [] => rfl
  | a :: as => by
    show PyData.canLayAll0 (.int a :: pys (as.map D.int)) = true
    simp only [PyData.canLayAll0, lay_is as, Bool.and_true]
    rfl
theorem deep_is : ∀ ps : List Int, PyData.depthAll (pys (ps.map D.int)) ≤ 1
  | [] => Nat.zero_le _
  | a :: as => by
    show max (PyData.depth (.int a)) (PyData.depthAll (pys (as.map D.int))) ≤ 1
    exact Nat.max_le.mpr ⟨(show 0 ≤ 1 from Nat.zero_le 1), deep_is as⟩
theorem shp_is (ps : List Int) : shp (.lst (ps.map D.int)) = true := by
  unfold shp SeqAt.shaped
  rw [show okD (.lst (ps.map D.int)) = true from ok_is ps, Bool.true_and, show PyData.canLay0 (py (.lst (ps.map D.int))) = true from lay_is ps, Bool.true_and]
  refine decide_eq_true ?_
  show PyData.depthAll (pys (ps.map D.int)) + 1 ≤ 64
  have := deep_is ps
  omega
/-- xs != [] of a list of numbers -/
theorem od_neI0 {k : Nat} {l : Addr} {gs : List Int} (hu : X.A.units + 64 < cLine) (hk : M[k]? = some (l, .lst (gs.map D.int))) (q : Φ (.bl (!decide (gs = []))) M) : OpD X (compareOp .NotEq) (.adr l) (.lst []) M Φ := by
  refine od_neD (x' := .lst (gs.map D.int)) (y' := .lst []) hu (.inr ⟨k, l, _, rfl, hk, rfl⟩) (.inl rfl) (shp_is gs) rfl ?_
  have e : PyData.eqv (py (.lst (gs.map D.int))) (py (.lst [])) = decide (gs = []) := eqv_is gs []
  rw [e]
  exact q
end
/-! ### numbers in lists -/
def gI (f : Int → Int) : D → D
  | .int i => .int (f i)
  | d => d
def pI (p : Int → Bool) : D → Bool
  | .int i => p i
  | _ => false
theorem map_gI (f : Int → Int) (is : List Int) : (is.map D.int).map (gI f) = (is.map f).map D.int := by
  rw [List.map_map, List.map_map]
  rfl
theorem filt_pI (p : Int → Bool) : ∀ is : List Int, ((is.map D.int).filter (pI p)).map (fun y => y) = (is.filter p).map D.int
  | [] => rfl
  | a :: as => by
    have ih := filt_pI p as
    rw [List.map_cons, List.filter_cons, List.filter_cons]
    show (if p a = true then _ else _ : List D).map _ = _
    split
    · rw [List.map_cons, ih]
      rfl
    · exact ih
def cutL {α : Type} (xs : List α) (lo hi : Option Int) : List α := (xs.drop (HT.sIx xs.length 0 lo)).take (HT.sIx xs.length xs.length hi - HT.sIx xs.length 0 lo)
theorem cut_map {α : Type} (f : α → D) (xs : List α) (lo hi : Option Int) : cutD (xs.map f) lo hi = (cutL xs lo hi).map f := by
  unfold cutD cutL
  rw [List.length_map, List.map_take, List.map_drop]
theorem cut_len {α : Type} (xs : List α) (lo hi : Option Int) : (cutL xs lo hi).length ≤ xs.length := by
  unfold cutL
  rw [List.length_take, List.length_drop]
  omega
theorem cut_mem {α : Type} {xs : List α} {lo hi : Option Int} {x : α} (h : x ∈ cutL xs lo hi) : x ∈ xs := List.mem_of_mem_drop (List.mem_of_mem_take h)
/-! ### the drawing list: what is left of great cells, a mixed number -/
def Good (gs : List Int) (m : Int) : Prop := (∀ g, g ∈ gs → 0 ≤ g) ∧ gs.length ≤ 63 ∧ 0 ≤ m ∧ m < 2 ^ 31
def put2 (M : Mem) (k : Nat) (l l2 : Addr) (gs : List Int) (m : Int) : Mem := (M.set k (l, .lst [.adr l2, .int m])).set (k + 1) (l2, .lst (gs.map D.int))
def DealAt (M : Mem) (k : Nat) (l l2 : Addr) : Prop := ∃ gs m, Good gs m ∧ M[k]? = some (l, .lst [.adr l2, .int m]) ∧ M[k + 1]? = some (l2, .lst (gs.map D.int))
section
variable {M : Mem} {k : Nat} {l l2 : Addr} {gs gs' : List Int} {m m' : Int} {x : Addr × MO}
theorem put2_self (h0 : M[k]? = some (l, .lst [.adr l2, .int m])) (h1 : M[k + 1]? = some (l2, .lst (gs.map D.int))) : put2 M k l l2 gs m = M := by
  obtain ⟨a0, e0⟩ := List.getElem?_eq_some_iff.mp h0
  obtain ⟨a1, e1⟩ := List.getElem?_eq_some_iff.mp h1
  unfold put2
  rw [← e0, List.set_getElem_self, ← e1, List.set_getElem_self]
theorem put2_put2 : put2 (put2 M k l l2 gs m) k l l2 gs' m' = put2 M k l l2 gs' m' := by
  unfold put2
  rw [List.set_comm _ _ (show k + 1 ≠ k by omega), List.set_set, List.set_set]
theorem DealAt.len (h : DealAt M k l l2) : k + 1 < M.length := by
  obtain ⟨_, _, _, _, h1⟩ := h
  exact (List.getElem?_eq_some_iff.mp h1).1
theorem get2_0 (h : k + 1 < M.length) : (put2 M k l l2 gs m)[k]? = some (l, .lst [.adr l2, .int m]) := by
  unfold put2
  rw [List.getElem?_set_ne (by omega), List.getElem?_set_self (by omega)]
theorem get2_1 (h : k + 1 < M.length) : (put2 M k l l2 gs m)[k + 1]? = some (l2, .lst (gs.map D.int)) := by
  unfold put2
  rw [List.getElem?_set_self (by rw [List.length_set]; exact h)]
theorem put2_len : (put2 M k l l2 gs m).length = M.length := by
  unfold put2
  rw [List.length_set, List.length_set]
theorem deal_put (h : k + 1 < M.length) (g : Good gs m) : DealAt (put2 M k l l2 gs m) k l l2 := ⟨gs, m, g, get2_0 h, get2_1 h⟩
theorem deal_cons (h : DealAt M k l l2) : DealAt (x :: M) (k + 1) l l2 := h
theorem put2_cons : put2 (x :: M) (k + 1) l l2 gs m = x :: put2 M k l l2 gs m := rfl
theorem put2_pop {ys : List Int} {y : Int} : (put2 M k l l2 (ys ++ [y]) m).set (k + 1) (l2, .lst ((ys ++ [y]).map D.int).dropLast) = put2 M k l l2 ys m := by
  unfold put2
  rw [List.set_set, List.map_append, List.map_cons, List.map_nil, List.dropLast_concat]
theorem put2_push {ys : List Int} {y : Int} : (put2 M k l l2 ys m).set (k + 1) (l2, .lst (ys.map D.int ++ [.int y])) = put2 M k l l2 (ys ++ [y]) m := by
  unfold put2
  rw [List.set_set, List.map_append, List.map_cons, List.map_nil]
theorem put2_set1 : (put2 M k l l2 gs m).set k (l, .lst [.adr l2, .int m']) = put2 M k l l2 gs m' := by
  unfold put2
  rw [List.set_comm _ _ (show k + 1 ≠ k by omega), List.set_set]
theorem last_ints {ys : List Int} {y : Int} : atI ((ys ++ [y]).map D.int) (-1) = some (.int y) := by
  rw [List.map_append]
  exact atI_last _ _
theorem last_ints2 {ys : List Int} {y : Int} : ((ys ++ [y]).map D.int)[((ys ++ [y]).map D.int).length - 1]? = some (.int y) := by
  rw [List.map_append, List.map_cons, List.map_nil, List.length_append]
  simp
theorem snoc_cases (gs : List Int) : gs = [] ∨ ∃ ys y, gs = ys ++ [y] := by
  rcases List.eq_nil_or_concat gs with h | ⟨ys, y, h⟩
  · exact .inl h
  · exact .inr ⟨ys, y, by rw [h, List.concat_eq_append]⟩
theorem Good.pop {ys : List Int} {y : Int} (h : Good (ys ++ [y]) m) : Good ys m ∧ 0 ≤ y := by
  obtain ⟨h1, h2, h3, h4⟩ := h
  rw [List.length_append] at h2
  exact ⟨⟨fun g hg => h1 g (List.mem_append_left _ hg), by omega, h3, h4⟩, h1 y (List.mem_append_right _ List.mem_cons_self)⟩
theorem Good.push {ys : List Int} {y z : Int} (h : Good (ys ++ [y]) m) (hz : 0 ≤ z) : Good (ys ++ [z]) m := by
  obtain ⟨h1, h2, h3, h4⟩ := h
  rw [List.length_append] at h2
  refine ⟨fun g hg => ?_, by rw [List.length_append]; exact h2, h3, h4⟩
  rcases List.mem_append.mp hg with a | a
  · exact h1 g (List.mem_append_left _ a)
  · rw [List.mem_singleton] at a
    omega
end
end Dt

set_option Elab.async false
set_option linter.all false
set_option maxRecDepth 100000
set_option maxHeartbeats 2000000
/-! Dt, part 21: classes made with defaults. -/
namespace Dt
open PySem PySem.Spec PyProof.Rows L2
/-- as HasMk; the last parameters, which are not handed in, are dd -/
def HasMkD (P : Program) (w : World) (K : PySem.W.Frag) (mg : Str → Option Value) (base : Heap) (k : Nat) (C : Addr) (x : Str) (dd : List D) (S : DS) : Prop :=
  ∃ f fd ps dvs dus, FnOk P w K mg base CX0 k f fd ps (spOf K S) ∧ Mk K C f ∧ mg x = some (.ref C) ∧ Binds K fd ps dus ∧ Vals dvs dus ∧ ∀ P1 : Hp, IsDs K P1 dvs dd
section
variable {X : Cx} {Γ : Sl} {M : Mem} {Φ : VP} {e : Expr} {es : List Expr} {pos p : Pos} {k : Nat} {x : Str} {S : DS} {dd : List D}
theorem sp_ofD {P : Hp} {H : Hp} {vs dvs : List V} {ds : List D} {E : XK} {K : PySem.W.Frag} (i : IsDs K P vs ds) (j : IsDs K P dvs dd) (m : MOk K M P H) (s : S (ds ++ dd) M Φ) : spOf K S (vs ++ dvs) H (Fin K P Φ) E := ⟨P, M, ds ++ dd, Φ, i.append j, m, s, fun _ _ z => z⟩
theorem we_makeD {C : Addr} (F : HasMkD X.prog X.w X.K X.mg X.base k C x dd S) (hr : Room (k + 1) X.A) (h : WA X Γ M (e :: es) fun ds M1 => ∀ l, S (.adr l :: (ds ++ dd)) ((l, .ins C []) :: M1) fun r M2 => r = .non ∧ ∃ fs M3, M2 = (l, .ins C fs) :: M3 ∧ Φ (.obj C fs) M3)
    (hg : Gl X x := by rfl) (hdb : (x == ("__debug__" : Str)) = false := by decide) (he : starEach (e :: es) X.env = (false, eval e X.env) :: starEach es X.env := by rfl) (hpl : (backTo pos (starEach es X.env)).any (·.1) = false := by rfl) : WE X Γ M (.Call (.Name x p) (e :: es) [] pos) Φ := fun P σ H s m => by
  obtain ⟨f, fd, ps, dvs, dus, F1, mk, hm, hb, hv, hi⟩ := F
  refine wpT_of (pe_make mk F1 hr hg hm hb hv pass0 pa_wp hdb he hpl) ((h P σ H s m).mono fun vs H1 ⟨ds, M1, P1, q, e1, m1, i1⟩ => ?_)
  intro l dx hl hdx hne
  obtain ⟨m2, e2⟩ := m1.push (o := .own l) hdx
  have hl2 : upd H1 dx (.own l) l = none := by
    rw [upd_ne (fun z => hne z.symm)]
    exact hl
  have m3 : MOk X.K ((l, .ins C []) :: M1) (upd P1 dx (.own l)) (upd (upd H1 dx (.own l)) l (.ins C dx [])) := m2.own hl2 ⟨dx, [], upd_same, .nil⟩
  obtain ⟨P3, M3, d3, Φ3, a1, a2, a3, a4⟩ := sp_ofD (E := E0) (vs := .ref l :: vs) (ds := .adr l :: ds) (.cons .adr (i1.mono e2)) (hi _) m3 (q l)
  refine ⟨P3, M3, d3, Φ3, a1, a2, a3, fun v H' z => ?_⟩
  obtain ⟨d4, M4, P4, ⟨z1, fs, M5, z2, z6⟩, z3, z4, z5⟩ := a4 v H' z
  subst z1 z2
  cases z5
  obtain ⟨P6, e6, m6, i6⟩ := frz_ins z4
  exact ⟨rfl, _, M5, P6, z6, ((e1.trans e2).trans z3).trans e6, m6, i6⟩
end
section
variable {P : Program} {w : World} {K : Fg} {h base : Heap} {mg : Str → Option Value} {k : Nat} {C m qual : Str} {params : Arguments} {body : List Stmt} {scope : Scope} {fd : FuncData} {ps : List Str} {S : DS} {dvs : List V} {dd : List D}
theorem hasMkD (X : K.In h) (G : h.Ns mainGlobals mg) (b : ∃ ds, Vals dvs ds ∧ Binds K fd ps ds) (hd : ∀ P1 : Hp, IsDs K P1 dvs dd) (g : (He.Fa.mkr C).ok K = true) (g2 : (He.Fa.glo C).ok K = true) (F1 : FnOk P w K mg base CX0 k (locM C "__init__" K) fd ps (spOf K S)) : HasMkD P w K mg base k (He.ga K C) C dd S := by
  obtain ⟨ds, hv, hb⟩ := b
  exact ⟨_, fd, ps, dvs, ds, F1, He.mkr_ok g, He.glo_ok X G g2, hb, hv, hd⟩
end
end Dt

set_option Elab.async false
set_option linter.all false
set_option maxRecDepth 100000
set_option maxHeartbeats 4000000
/-! Dt, part 22: sorted(set(a list of numbers)). -/
namespace Dt
open PySem PySem.Spec PyProof.Rows L2
/-- the new set -/
abbrev nSet (w : World) : Obj := { cls := .type "set", dict := none, data := .set #[] 0 (.fresh 0 0 (!w.params.followText "set-order")) }
section
variable {P : Program} {w : World} {A : Around} {E : Value → Shared → Prop} {hp : Heap} {g : Array GenState} {d : Drawn} {t : Nat} {os : OsState} {l : Addr} {ns : List Int}
/-- what is there when the set is filled -/
def Filled (w : World) (hp h' : Heap) (ns : List Int) : Prop := ∃ c, SetR w h' hp.objs.size (fun j => decide (j ∈ ns)) c ∧ c ≤ ns.length ∧ ∀ b o, hp.get? b = some o → h'.get? b = some o
theorem fillSet {its : Array Value} (hh : A.handled = none) (hl : hp.IsList l its) (hi : IntsAre its.toList ns) (hb : ns.length + 1 < scanBound) {R : Result → Shared → Prop}
    (hR : ∀ h' tk, Filled w hp h' ns → R (.ok (.ret .none)) ⟨h', g, d, tk, os⟩) :
    wpAny (model P w) A.in1 (Builtin.«set.__init__» ⟨[.ref hp.objs.size, .ref l], []⟩) (fun fin s' => match fin with | .done f => R (.ok f) s' | .again c' => c'.quiet = true ∧ codeAny (model P w) A c' R s') (fun e s' => R (.error e) s') ⟨hp.push (nSet w), g, d, t, os⟩ := by
  have hn : its.size = ns.length := by rw [← IntsAre.length hi, Array.length_toList]
  obtain ⟨⟨c0, d0, dat0, sl0⟩, hget, rfl, n0, rfl⟩ := hl
  have hget1 : (hp.push (nSet w)).get? l = some { cls := .type "list", dict := d0, data := .seq its n0, slots := sl0 } := Heap.get?_push_of_some _ hget
  have hlst : (hp.push (nSet w)).IsList l its := ⟨_, hget1, rfl, n0, rfl⟩
  have hset : (hp.push (nSet w)).get? hp.objs.size = some (nSet w) := Heap.get?_push_size _ rfl
  have q1 := F.sub_list_set
  have q2 := F.sub_list_frozenset
  have q3 : (Value.type "list" == Value.type "dict") = false := by decide
  have hlt : l < hp.objs.size := Heap.lt_size hget
  have hsz : (hp.push (nSet w)).objs.size = hp.objs.size + 1 := Heap.size_push ..
  have hin : A.in1.in1.handled = none := by simp [hh]
  unfold Builtin.«set.__init__» noKeywords Builtin.Frozenset.updateFrom
  generalize hPI : pyIter = PI
  wp_walk
  subst hPI
  refine wpAny_pyIter_list hlst (wpAny_bind (wpAny_runValue ?_))
  have hval : ∀ (i : Nat) (v : Value), its[i]? = some v → ∃ k u, ns[i]? = some k ∧ v = .int k u := fun i v hv => by
    have hi2 : i < ns.length := by
      rw [← hn]
      exact (Array.getElem?_eq_some_iff.mp hv).1
    obtain ⟨u, e⟩ := PyProof.Rows.IntsAre.int_at hi i v (by rw [Array.getElem?_toList]; exact hv)
    refine ⟨ns[i], u, List.getElem?_eq_getElem hi2, e.trans ?_⟩
    rw [List.getD_eq_getElem?_getD, List.getElem?_eq_getElem hi2]
    rfl
  refine set_update_ints ((Walks.list hin (hp.push (nSet w)).objs.size l (by rw [hsz]; exact Nat.ne_of_lt (Nat.lt_succ_of_lt hlt)) its).toS) hp.objs.size (fun z => ?_) ns hn hb hval (its.size - 0) 0 _ rfl (Nat.zero_le _)
    ⟨⟨_, Heap.get?_push_size _ rfl, rfl, rfl⟩, hlst.push _⟩ ⟨0, Nat.le_refl 0, setR_new_at (Heap.get?_push_of_some _ hset)⟩ fun s' c hm hc hS => ?_
  · rw [hsz] at z
    simp only [List.mem_cons, List.not_mem_nil, or_false] at z
    rcases z with z | z
    · exact absurd z (Nat.ne_of_lt (Nat.lt_succ_self _))
    · exact absurd z (Nat.ne_of_gt hlt)
  · obtain ⟨h', g2, d2, tk, o2⟩ := s'
    obtain rfl : g2 = g := hm.gens
    obtain rfl : d2 = d := hm.drawn
    obtain rfl : o2 = os := hm.os
    refine wpAny_pure (wpAny_pure (hR h' tk ⟨c, hS, by rw [← hn]; exact hc, fun b o e => ?_⟩))
    have hbl := Heap.lt_size e
    refine hm.heap b o (fun z => ?_) (Heap.get?_push_of_some _ (Heap.get?_push_of_some _ e))
    rw [hsz] at z
    simp only [List.mem_cons, List.not_mem_nil, or_false] at z
    rcases z with z | z
    · exact absurd z (Nat.ne_of_lt hbl)
    · exact absurd z (Nat.ne_of_lt (Nat.lt_succ_of_lt hbl))
/-- set(xs) -/
theorem call_setL {its : Array Value} {Q : Value → Shared → Prop} (hh : A.handled = none) (hl : hp.IsList l its) (hi : IntsAre its.toList ns) (hb : ns.length + 1 < scanBound)
    (h : ∀ h' tk, Filled w hp h' ns → Q (.ref hp.objs.size) ⟨h', g, d, tk, os⟩) : wpAny (model P w) A (call (.type "set") [.ref l]) Q E ⟨hp, g, d, t, os⟩ := by
  obtain ⟨c, tl, e1⟩ := F.called_set.mro
  have e2 := F.called_set.made
  have e3 := F.called_set.sub
  have e4 := F.called_set.notType
  have e5 := F.called_set.canCreate
  have e6 := F.typeCall_set_1 (.ref l)
  refine wpAny_call (codeAny_of_tree (show wpAny _ _ (callAny (.type "set") _) _ _ _ from wpAny_pure ⟨Code.quiet_builtin _ (by decide +kernel), codeAny_builtin F.entry_type_call ?_⟩))
  rw [Around.under_plain (weight_type_call_type "set" [.ref l] []) rfl]
  repeat (any_goals (first | assumption | wp_step))
  refine codeAny_mono (code_set_led1 (.ref l) (E := E) (Q₁ := fun ob s1 => ob = .ref hp.objs.size ∧ s1 = ⟨hp.push (nSet w), g, d, t, os⟩) ⟨rfl, rfl⟩) fun r s1 hr => ?_
  cases r with
  | error e => exact hr
  | ok fl =>
    cases fl with
    | ret ob =>
      obtain ⟨rfl, rfl⟩ := hr
      have ht : Shared.TypeIs ⟨hp.push (nSet w), g, d, t, os⟩ (.ref hp.objs.size) "set" := ⟨_, Heap.get?_push_size _ rfl, rfl⟩
      have f1 := F.called_set.init.lookup
      have f2 := F.called_set.init.bind (.ref hp.objs.size)
      repeat (any_goals (first | assumption | wp_step))
      refine codeAny_mono (codeAny_call_builtin (R := wants (fun r s2 => r = .none ∧ ∃ h' tk, s2 = ⟨h', g, d, tk, os⟩ ∧ Filled w hp h' ns) E) F.called_set.init.plain F.entry_set_init (check_set_init_1 ht (fillSet (A := A.in1) hh hl hi hb fun h' tk z => ⟨rfl, h', tk, rfl, z⟩))) fun r2 s2 hr2 => ?_
      cases r2 with
      | error e => exact hr2
      | ok fl2 =>
        cases fl2 with
        | ret r =>
          obtain ⟨rfl, h', tk, rfl, z⟩ := hr2
          repeat (any_goals (first | assumption | wp_step))
          exact h _ _ z
        | _ => exact hr2.elim
    | _ => exact hr.elim
end
section
variable {X : Cx} {Γ : Sl} {M : Mem} {Φ : VP}
/-- set(a list of numbers), by values -/
theorem cr_setL (hc : X.calm = true) : CallR X (.type "set") (fun xs H Q => ∃ (a : Addr) (ns : List Int), xs = [.ref a] ∧ SqL X.K H a (ns.map V.int) ∧ ns.length ≤ 2000 ∧ ∀ p c, H p = none → c ≤ ns.length → Q (.ref p) (upd H p (SetO X.w p (fun j => decide (j ∈ ns)) c))) := by
  intro pins s σ H xs us Q I r h
  obtain ⟨a, ns, rfl, hq, hb, q⟩ := h
  obtain rfl := Vals.ref1 r
  obtain ⟨its, rv, pl, hz⟩ := I.list hq
  obtain ⟨hp, g, d, t, os⟩ := s
  refine call_setL (ns := ns) (I.ok.hd hc) pl.isList (by simpa using ints_of_vals rv) (by have e : scanBound = 4096 := rfl; omega) fun h' tk ⟨c, hS, hcl, hk⟩ => ?_
  have hn : H hp.objs.size = none := I.hok.fresh (Nat.le_refl _)
  have J := I.laid (t' := tk) (a := hp.objs.size) (o := SetO X.w hp.objs.size (fun j => decide (j ∈ ns)) c) (h' := h') hk (Nat.le_refl _) (setO_new hS)
  exact ⟨.ref _, _, J, rfl, q _ c hn hcl⟩
/-- the set that is made of a list, for sorted alone -/
theorem wcSet {x : Str} {e : Expr} {pos p : Pos} (hm : X.mg "set" = none) (hms : X.mg "sorted" = none) {e2 : Expr} {pos2 p2 : Pos}
    (h : WA X Γ M [e2] fun ds M1 => ∃ ns : List Int, ds = [.lst (ns.map D.int)] ∧ ns.length < 64 ∧ ∀ ms : List Int, ms.Pairwise (· < ·) → (∀ k, k ∈ ms ↔ k ∈ ns) → Φ (.lst (ms.map D.int)) M1)
    (hc : X.calm = true := by rfl) (hg : Gl X "set" := by rfl) (hg2 : Gl X "sorted" := by rfl) (he : starEach [e2] X.env = (false, eval e2 X.env) :: starEach [] X.env := by rfl) (hpl : (backTo pos2 (starEach [] X.env)).any (·.1) = false := by rfl)
    (he1 : starEach [.Call (.Name "set" p2) [e2] [] pos2] X.env = (false, eval (.Call (.Name "set" p2) [e2] [] pos2) X.env) :: starEach [] X.env := by rfl) (hpl1 : (backTo pos (starEach [] X.env)).any (·.1) = false := by rfl) :
    WE X Γ M (.Call (.Name "sorted" p) [.Call (.Name "set" p2) [e2] [] pos2] [] pos) Φ := fun P σ H s m => by
  have hset : PE X (.Call (.Name "set" p2) [e2] [] pos2) (tCB _ (wpA X [e2])) := pe_callTy (cr_setL hc) hg hm (by decide +kernel) pa_wp (by decide) (by decide) he hpl
  refine wpT_of (pe_callB (cr_sortedSet hc) hg2 hms boot_sorted (pa_cons hset pa_nil he1) (by decide) (by decide) he1 hpl1) ?_
  refine (h P σ H s m).mono fun vs H1 ⟨ds, M1, P1, ⟨ns, ed, hl, q⟩, e1, m1, i1⟩ => ?_
  subst ed
  obtain ⟨v, rfl, hv⟩ := i1.un1
  cases hv with
  | @lst a xs _ hs hlx hix =>
    rw [isDs_ints ⟨hlx, hix⟩] at hs
    refine ⟨a, ns, rfl, m1.ex.seq hs, by omega, fun p0 c hn hcl => ?_⟩
    obtain ⟨m2, e2'⟩ := m1.push (o := SetO X.w p0 (fun j => decide (j ∈ ns)) c) hn
    refine ⟨p0, _, c, rfl, upd_same, by omega, fun ms p3 h1 h2 h3 h4 => ?_⟩
    obtain ⟨m3, e3⟩ := m2.push (o := .lst (ms.map V.int)) h4
    exact ⟨_, M1, _, q ms h1 (fun k => by rw [h2 k, decide_eq_true_eq]), (e1.trans e2').trans e3, m3, .lst (SqL.of upd_same) (IsDs.ints (K := X.K) (P := P1) ms).1 (IsDs.ints ms).2⟩
end
end Dt

set_option Elab.async false
set_option linter.all false
set_option maxRecDepth 100000
set_option maxHeartbeats 4000000
/-! Dt, part 23: an own error's __init__ that says super().__init__(x), then self.x = x. -/
namespace Dt
open PySem PySem.Spec PyProof.Rows L2
/-- what the class at C and its __init__ must be -/
structure SupC (P : Program) (K : PySem.W.Frag) (C cc cda : Addr) (x : Str) : Prop where
  oex : OexC K C
  along : PySem.W.ks_superIn K C C "__init__" = some (some (.builtin "ValueError.__init__"))
  sub : PySem.W.mroIn K C (.ref C) = some true
  val : PySem.W.subIn K (.ref C) (.type "ValueError") = some true
  opq : PySem.W.nsIn K cStatics "thirdparty.any" = some none
  noa : PySem.W.findIn K (.ref C) x = some none
  sup : PySem.W.nsIn K mainGlobals "super" = some none
  cell : ∃ cl cld csl, K.lookup cc = some ⟨cl, cld, .cell (some (.ref C)), csl⟩
  code : ∃ ccl cdd vs ccs file tf, K.lookup cda = some ⟨ccl, cdd, .fields vs, ccs⟩ ∧ vs[2]? = some (.str file tf) ∧ ((P.main.file : Str) == file) = true
  top : (P.main.scope.names.lookup ("super" : Str)).isSome = false
section
variable {P : Program} {w : World} {A : Around} {E : Value → Shared → Prop} {hp : Heap} {g : Array GenState} {d : Drawn} {t : Nat} {os : OsState} {K : PySem.W.Frag} {C a u : Addr}
/-- the bound built-in __init__ is called -/
theorem callMw {rest : List Value} {t0 : Addr} {Q : Value → Shared → Prop} (T : OexC K C) (X : K.In hp) (hu : hp.get? u = some (PySem.W.kxs_mw "ValueError.__init__" a)) (ha : hp.get? a = some (PySem.W.excObj C t0 none .none)) (hz : rest.length ≤ sizeLine)
    (h : ∀ h' t1, (∀ b o, b ≠ a → hp.get? b = some o → h'.get? b = some o) → h'.get? a = some (PySem.W.excObj C t1 none .none) → Q .none ⟨h', g, d, t, os⟩) : wpAny (model P w) A (call (.ref u) rest) Q E ⟨hp, g, d, t, os⟩ := by
  obtain ⟨nm, q, N, bs, bm, sn, sub, ab, col, dd, k0, k1, k2, k3, k5, hC, _⟩ := T.cls
  have hb := F.excBase_ValueError
  refine wpAny_call (codeAny_of_tree (show wpAny _ A.in1 (callAny (.ref u) ⟨rest, []⟩) _ _ _ from ?_))
  simp only [callAny]
  refine wpAny_bind (wpAny_load hu ?_)
  have e : (Value.type "method-wrapper" == Value.type "method" || Value.type "method-wrapper" == Value.type "builtin_function_or_method" || Value.type "method-wrapper" == Value.type "method-wrapper") = true := by decide
  simp only [PySem.W.kxs_mw, e, if_true]
  refine PySem.W.KFB.if_so (by decide) (wpAny_bind (PySem.W.check_bound_init hb.toExcCallFacts (X _ _ hC) ha rfl (wpAny_bind (wpAny_pure (wpAny_pure ⟨plainId_quiet hb.init.plain _, codeAny_builtin hb.initEntry ?_⟩)))))
  exact PySem.W.exc_init_tree (cls := .ref C) (c2 := .none) (c3 := .none) (b4 := .bool false) ha hz fun h' k1 k2 _ => h h' _ k1 k2
end
/-- the promise of such an __init__ -/
def spSup (C : Addr) (x : Str) : Sp := fun vs H Q _ => ∃ a y, vs = [.ref a, y] ∧ H a = some (exo a C none) ∧ ∀ dx, H dx = none → dx ≠ a → Q .non (upd (upd H dx (exd dx [(x, y)])) a (exo a C (some dx)))
/-- the scope of such an __init__ -/
structure SupS (scope : Scope) (x : Str) : Prop where
  kind : scope.kind = .function
  co : scope.isCoroutine = false
  gen : scope.isGenerator = false
  sup : scope.names.lookup ("super" : Str) = some .globalImplicit
  cls : scope.names.lookup ("__class__" : Str) = some .free
  self : scope.names.lookup ("self" : Str) = some .local
  arg : scope.names.lookup x = some .local
  noc : ∀ z, z ∈ scope.names → z.2 ≠ .cell
  fre : ∀ z, z ∈ scope.names → z.2 = .free → z.1 = ("__class__" : Str)
section
variable {P : Program} {w : World} {K : PySem.W.Frag} {mg : Str → Option Value} {base : Heap} {C cc cda f : Addr} {x name qual : Str} {params : Arguments} {scope : Scope} {dV kV doc pm ct oc : Value} {an od : Option Addr} {osl : Array (Option Value)} {ar : Arg}
/-- the context of its body -/
abbrev cxS (CX : CXT) (P : Program) (w : World) (K : PySem.W.Frag) (mg : Str → Option Value) (base : Heap) (x qual : Str) (scope : Scope) (f cda cc : Addr) (A : Around) (outer : List Env) (s : Shared) (H : Hp) (E : XK) : Cx :=
  { prog := P, w := w, K := K, mg := mg, base := base, A := A.deeper (PySem.W.ksEnv qual scope s.heap.objs.size f (.ref cda) cc), N := ["self", x], s_0 := s, H_0 := H, env := PySem.W.ksEnv qual scope s.heap.objs.size f (.ref cda) cc, outer := outer,
    stack := PySem.W.ksEnv qual scope s.heap.objs.size f (.ref cda) cc :: outer, ex := [], calm := true, fn := fun y => y != "__class__", pn := [],
    xe := fun e s' => wpAny (model P w) (A.deeper (PySem.W.ksEnv qual scope s.heap.objs.size f (.ref cda) cc)) (leaving (PySem.W.ksEnv qual scope s.heap.objs.size f (.ref cda) cc) e) (fun _ s'' => CX outer H s E e s'') (fun e' s'' => CX outer H s E e' s'') s' }
theorem lk_mem {l : List (Str × NameKind)} {y : Str} {z : NameKind} (h : l.lookup y = some z) : (y, z) ∈ l := PySem.mem_of_lookup h
theorem inv_sup {CX : CXT} {A : Around} {outer : List Env} {s : Shared} {H : Hp} {E : XK} {h0 : Heap} {tk : Nat} {a : Addr} {y : V} {u1 : Value} (S : SupC P K C cc cda x) (Sc : SupS scope x) (hx : x ≠ "self") (hx2 : x ≠ "__class__") (hd : A.handled = none) (e0 : Env0 P w K mg base A outer s H)
    (hns : h0.Ns s.heap.objs.size (fun z => ([("self", Value.ref a), (x, u1)] : List (Str × Value)).reverse.lookup z)) (hk : ∀ b o, s.heap.get? b = some o → h0.get? b = some o) (ru : RelV y u1) :
    Inv (cxS CX P w K mg base x qual scope f cda cc A outer s H E) [] [some (.ref a), some y] H { s with heap := h0, toks := tk } := by
  obtain ⟨cl, cld, csl, hcell⟩ := S.cell
  have hbc := e0.mod.kin _ _ hcell
  have hclk : ∀ z c, (PySem.W.ksEnv qual scope s.heap.objs.size f (.ref cda) cc).cells.lookup z = some c → z = "__class__" ∧ c = cc := fun z c h => by
    have h : ([(("__class__" : Str), cc)] : List (Str × Addr)).lookup z = some c := h
    by_cases hz : z = "__class__"
    · subst hz
      simp at h
      exact ⟨rfl, h.symm⟩
    · have : (z == ("__class__" : Str)) = false := by simpa using hz
      rw [List.lookup_cons, this] at h
      cases h
  refine ⟨⟨e0.mod, Sc.kind, rfl, rfl, Nat.le_refl _, fun z1 z2 c h1 h2 => ?_, fun z hz => ?_, fun z c h1 h2 => ?_, fun _ => hd, Around.frames_deeper e0.frames, .inr ⟨rfl, rfl⟩, fun b z => absurd z (by simp), e0.bs, e0.bsz, fun b _ _ => (by simp), fun b z => absurd z (by simp), e0.funs, e0.frf⟩,
    rfl, e0.bare, Un.kept hk, ⟨_, hns, fun i z v h1 h2 h3 => ?_⟩, fun z c h => ?_, e0.hok.fresh (Nat.le_refl _), fun z c h => ?_, fun p hp => absurd hp (by simp), e0.hok.kept hk, rfl⟩
  · rw [(hclk z1 c h1).1, (hclk z2 c h2).1]
  · have hz : scope.names.lookup z = some .cell ∨ scope.names.lookup z = some .free := hz
    rcases hz with hz | hz
    · exact absurd rfl (Sc.noc _ (lk_mem hz))
    · have e := Sc.fre _ (lk_mem hz) rfl
      dsimp only at e
      subst e
      exact ⟨cc, by simp⟩
  · obtain ⟨e, _⟩ := hclk z c h2
    subst e
    cases h1
  · match i, h1, h2 with
    | 0, h1, h2 =>
      cases h1
      cases h2
      refine ⟨.ref a, rfl, .inl ⟨Sc.self, ?_⟩⟩
      have : (("self" : Str) == x) = false := by simpa using hx.symm
      simp [List.lookup_cons, this]
    | 1, h1, h2 =>
      cases h1
      cases h2
      exact ⟨u1, ru, .inl ⟨Sc.arg, by simp⟩⟩
    | i + 2, h1, h2 => simp at h1
  · obtain ⟨_, e⟩ := hclk z c h
    subst e
    exact ⟨_, _, hk _ _ (e0.bs _ _ hbc).1, rfl⟩
  · obtain ⟨_, e⟩ := hclk z c h
    subst e
    exact (e0.bs _ _ hbc).2
/-- THE RULE: the def itself -/
theorem fn_sup {CX : CXT} {k : Nat} {p0 p1 p2 p3 p4 p5 p6 p7 p8 p9 : Pos} {pl : Sem Bool}
    (lk : K.lookup f = some ⟨oc, od, .func (PySem.W.ksFn name qual params [.Expr (.Call (.Attribute (.Call (.Name "super" p0) [] [] p1) "__init__" p2) [.Name x p3] [] p4) p5, .Assign [.Attribute (.Name "self" p6) x p7] (.Name x p8) p9] scope dV kV doc pm an (.ref cda) ct cc), osl⟩)
    (hcd : PySem.W.codeIn K (.ref cda) qual = true) (S : SupC P K C cc cda x) (Sc : SupS scope x) (hx : x ≠ "self") (hx2 : x ≠ "__class__") (hdb : (x == ("__debug__" : Str)) = false) (hdc : (x == ("__classdict__" : Str)) = false)
    (hp : (params.posonlyargs ++ params.args).head? = some ar) (har : ar.arg = "self")
    (hev : ∀ env : Env, eval (.Call (.Attribute (.Call (.Name "super" p0) [] [] p1) "__init__" p2) [.Name x p3] [] p4) env = (do
      let ov ← attributeBase (.Call (.Name "super" p0) [] [] p1) "__init__" env (eval (.Call (.Name "super" p0) [] [] p1) env)
      standAt p2.atName
      let (f, first) ← holding [ov] (getMethod ov "__init__" pl)
      callWith p4 f first (backTo p4 (starEach [.Name x p3] env)) []))
    (hsw : ∀ env : Env, swapsWith (.Call (.Attribute (.Call (.Name "super" p0) [] [] p1) "__init__" p2) [.Name x p3] [] p4) none p5.line env = pure false) (hsw2 : ∀ env : Env, swapsWith (.Name x p8) (some (.Attribute (.Name "self" p6) x p7)) p9.line env = pure false) :
    FnOk P w K mg base CX (k + 1) f (PySem.W.ksFn name qual params [.Expr (.Call (.Attribute (.Call (.Name "super" p0) [] [] p1) "__init__" p2) [.Name x p3] [] p4) p5, .Assign [.Attribute (.Name "self" p6) x p7] (.Name x p8) p9] scope dV kV doc pm an (.ref cda) ct cc) ["self", x] (spSup C x) := by
  refine ⟨fun vs H Q E ⟨a, y, e, _⟩ => by rw [e]; rfl, fun A outer s H args us vs Q E hr e0 hb r hsp => ?_⟩
  obtain ⟨a, y, rfl, ha, hq⟩ := hsp
  obtain ⟨u1, rfl, ru1⟩ : ∃ u1, us = [.ref a, u1] ∧ RelV y u1 := by
    cases r with
    | cons r0 r1 =>
      cases r1 with
      | cons r1 r2 =>
        cases r2
        cases r0
        exact ⟨_, rfl, r1⟩
  have KX : K.In s.heap := e0.mod.kin.keeps fun b o e => (e0.bs b o e).1
  have lim : s.heap.NoLimit := e0.mod.nolimit.keeps fun b o e => (e0.bs b o e).1
  refine ks_codeAny_call_defAt (binds := [("self", .ref a), (x, u1)]) hr.depth (KX _ _ lk) rfl lim (PySem.W.codeRec_of KX hcd) rfl hb Sc.noc (fun z hz => ?_) (fun h0 hns hk => ?_) Sc.co Sc.gen Sc.kind
  · simp only [List.mem_cons, List.not_mem_nil, or_false] at hz
    rcases hz with rfl | rfl
    · exact Sc.self
    · exact Sc.arg
  have I := inv_sup (CX := CX) (E := E) (tk := s.toks + 2) (qual := qual) (f := f) S Sc hx hx2 hr.hd e0 hns hk ru1
  obtain ⟨t0, ho⟩ := exo_at I.hok ha
  have KX0 : K.In h0 := I.kIn
  obtain ⟨ccl, cdd, vs, ccs, file, tf, hcode, hvs, hfile⟩ := S.code
  obtain ⟨cl, cld, csl, hcell⟩ := S.cell
  obtain ⟨nm, q, N, bs, bm, sn, sub, ab, col, dd, k0, k1, k2, k3, k5, hC, hbm⟩ := S.oex.cls
  obtain ⟨mb, hmb, hmb2⟩ := e0.mod.blt
  have hst : base.StaysIn h0 := fun b o e => hk b o (e0.bs b o e).1
  obtain ⟨hh, g, d, tk, os⟩ := s
  have hcl : PySem.W.clsIn K C = some { name := nm, bases := bs, mro := .ref C :: bm, ns := N, qualname := q, hasDict := true, slotNames := sn, subclasses := sub, abstract := ab, collection := col, hasDel := false } := by unfold PySem.W.clsIn; rw [hC] <;> rfl
  have hal := S.along
  unfold PySem.W.ks_superIn at hal
  rw [hcl, Option.bind_some] at hal
  have J0 : PySem.W.InstAt h0 a _ C none := ⟨ho, rfl, rfl, trivial⟩
  have hin : interactive (PySem.W.ksEnv qual scope hh.objs.size f (.ref cda) cc) = false := by
    unfold interactive
    simp [Sc.kind]
  have hlx : ([("self", Value.ref a), (x, u1)] : List (Str × Value)).reverse.lookup x = some u1 := by simp
  have hls : ([("self", Value.ref a), (x, u1)] : List (Str × Value)).reverse.lookup ("self" : Str) = some (Value.ref a) := by
    have e : (("self" : Str) == x) = false := by simpa using hx.symm
    simp [List.lookup_cons, e]
  refine ks_wpAt_execs_cons (ks_wpAt_Expr_any (ks_wpAt_MethodCall (pl := pl) (ks_wpAt_super_base (ar := ar) Sc.sup Sc.cls (by decide) rfl (KX0 _ _ lk) rfl hp rfl (KX0 _ _ hcode) rfl hvs hfile S.top ?_) (hev _)) hin (hsw _))
  refine PySem.W.ks_loadName_global Sc.kind Sc.sup (PySem.Calls.loadGlobal_builtin (e0.mod.glob.keeps hst) (PySem.W.mg_none_of e0.mod.kin e0.mod.glob S.sup) (hmb.keeps hst) ((hmb2 _ (by decide +kernel)).trans (show bootBuiltins "super" = some (.type "super") by decide +kernel)) ⟨rfl, ?_⟩)
  refine wpAny_loadName_free Sc.kind Sc.cls rfl ⟨_, KX0 _ _ hcell, rfl⟩ ?_
  rw [har]
  refine wpAny_loadName_local Sc.kind Sc.self hns hls ?_
  refine ks_wpAny_isType_cls (KX0 _ _ hC) rfl ⟨rfl, ?_⟩
  refine ks_wpAny_call_super (KX0 _ _ hC) rfl ho rfl (fun c e => by cases e) (PySem.W.looks_mroIn KX0 S.sub) (fun h1 e1 kk1 => ?_)
  have KX1 : K.In h1 := KX0.keeps kk1
  have J1 : PySem.W.InstAt h1 a _ C none := ⟨kk1 _ _ ho, rfl, rfl, trivial⟩
  refine PySem.W.kxs_getMethod PySem.W.kxs_ValueError e1 (PySem.W.looks_opaque KX1 S.opq) (l₀ := .ref C :: bm) (fun A Q E s k q => wpAny_bind ((PySem.W.looks_clsIn KX1 hcl) A _ E s k (wpAny_pure q))) rfl KX1 hal (J1.type.andThen (PySem.W.looks_subIn KX1 S.val)) (PySem.W.ks_ne KX1 J1 hcl) (by decide) ?_
  have kk2 : ∀ b o, h0.get? b = some o → (h1.push (PySem.W.kxs_mw "ValueError.__init__" a)).get? b = some o := fun b o e => Heap.get?_push_of_some _ (kk1 b o e)
  refine PySem.W.kxs_callWith (i := "ValueError.__init__") (x := a) rfl (PySem.Calls.evalArgs_plain ?_)
  refine args_cons (e := .Name x p3) (env := PySem.W.ksEnv qual scope hh.objs.size f (.ref cda) cc) (rest := []) ?_
  refine ESX.ldL (env := PySem.W.ksEnv qual scope hh.objs.size f (.ref cda) cc) (hns.keeps kk2) hlx ?_ Sc.kind Sc.arg hdb
  refine args_nil ⟨Heap.get?_push_size _ rfl, ?_⟩
  refine callMw S.oex (KX0.keeps kk2) (Heap.get?_push_size _ rfl) (kk2 _ _ ho) (by show 1 ≤ sizeLine; decide) fun h3 t1 k3 hx3 => ?_
  have I3' := I.write (t' := tk + 2 + 1) (x := a) (e := a) (o := exo a C none) (h' := h3) (by rw [ha]; trivial) (.inl rfl) (fun b o hb e => k3 b o hb (kk2 b o e)) ⟨_, hx3⟩ (exo_ok hx3)
  have eH : upd H a (exo a C none) = H := by
    funext b
    unfold upd
    split
    · rename_i z
      rw [z, ha]
    · rfl
  rw [eH] at I3'
  refine ks_wpAt_execs_cons (wpAt_of_wpAny ?_)
  have hp2 := (ps_ost (pe_var (X := cxS CX P w K mg base x qual scope f cda cc A outer ⟨hh, g, d, tk, os⟩ H E) (i := 0) rfl (.inl Sc.self) (by decide) (by decide)) (pe_var (i := 1) rfl (.inl Sc.arg) hdb hdc) (hsw2 _)).run [] _ _ H { nx := fun _ H' => Q .non H', rt := fun _ _ => False, bk := fun _ _ => False, ct := fun _ _ => False } I3' ⟨y, rfl, .ref a, rfl, a, C, rfl, S.oex, S.noa, .inl ⟨ha, fun dx h1 h2 => hq dx h1 h2⟩⟩
  refine wpAny_mono hp2 (fun fl s4 h4 => ?_) fun e s4 h4 => h4
  cases fl with
  | next =>
    obtain ⟨σ4, H4, J4, q4⟩ := h4
    exact wpAt_of_wpAny (wpAny_execs_nil ⟨.non, H4, J4.os, J4.bare, J4.base, J4.hok, rfl, q4⟩)
  | brk =>
    obtain ⟨_, _, _, z⟩ := h4
    exact z.elim
  | cont =>
    obtain ⟨_, _, _, z⟩ := h4
    exact z.elim
  | ret u =>
    obtain ⟨_, _, _, _, _, z⟩ := h4
    exact z.elim
end
end Dt

set_option Elab.async false
set_option linter.all false
set_option maxRecDepth 100000
set_option maxHeartbeats 4000000
/-! Dt, part 24: errors: raise, defs and makers that let one out, try .. except X as e. -/
namespace Dt
open PySem PySem.Spec PyProof.Rows L2
/-- what is told of an error: its class, its attributes, the memory -/
abbrev XP := Addr → List (Str × D) → Mem → Prop
def FinX (K : PySem.W.Frag) (P : Hp) (Ξ : XP) : XK := fun cls d H => ∃ C dd fs ds M' P2, cls = .ref C ∧ d = some dd ∧ P2 dd = some (.xd fs) ∧ IsFs K P2 fs ds ∧ Ξ C ds M' ∧ Ex P P2 ∧ MOk K M' P2 H
theorem FinX.up {K : PySem.W.Frag} {P P' : Hp} {Ξ : XP} {c : Value} {d : Option Addr} {H : Hp} (e : Ex P P') (h : FinX K P' Ξ c d H) : FinX K P Ξ c d H := by
  obtain ⟨C, dd, fs, ds, M', P2, a, b, c, d, f, g, i⟩ := h
  exact ⟨C, dd, fs, ds, M', P2, a, b, c, d, f, e.trans g, i⟩
theorem FinX.imp {K : PySem.W.Frag} {P : Hp} {Ξ Ξ' : XP} {c : Value} {d : Option Addr} {H : Hp} (e : ∀ C ds M, Ξ C ds M → Ξ' C ds M) (h : FinX K P Ξ c d H) : FinX K P Ξ' c d H := by
  obtain ⟨C, dd, fs, ds, M', P2, a, b, c, d, f, g, i⟩ := h
  exact ⟨C, dd, fs, ds, M', P2, a, b, c, d, e _ _ _ f, g, i⟩
/-- .. as a wish of a frame with its slots: their number alone is told -/
def WXP (X : Cx) (P : Hp) (Ξ : XP) : WX := fun cls d σ H => σ.length = X.N.length ∧ FinX X.K P Ξ cls d H
theorem tk_up {X : Cx} {P P' : Hp} {Ξ : XP} (e : Ex P P') (t : Takes X (WXP X P Ξ)) : Takes X (WXP X P' Ξ) := t.imp fun _ _ _ _ ⟨a, b⟩ => ⟨a, b.up e⟩
/-! ### judgements -/
def WEx (X : Cx) (Γ : Sl) (M : Mem) (e : Expr) (Φ : VP) (Ξ : XP) : Prop := ∀ P σ H, SOk X.K Γ P σ → MOk X.K M P H → Takes X (WXP X P Ξ) → wpT X e σ H (Fin X.K P Φ)
def W1x (X : Cx) (Γ : Sl) (M : Mem) (st : Stmt) (Ψ : Po) (Ξ : XP) : Prop := ∀ P σ H, SOk X.K Γ P σ → MOk X.K M P H → Takes X (WXP X P Ξ) → wpS X st (Ψ.ends X.K P) σ H
def WSx (X : Cx) (Γ : Sl) (M : Mem) (sts : List Stmt) (Ψ : Po) (Ξ : XP) : Prop := ∀ P σ H, SOk X.K Γ P σ → MOk X.K M P H → Takes X (WXP X P Ξ) → wpSs X sts (Ψ.ends X.K P) σ H
abbrev DSx := List D → Mem → VP → XP → Prop
def spOfX (K : PySem.W.Frag) (S : DSx) : Sp := fun vs H Q E => ∃ P M ds Φ Ξ, IsDs K P vs ds ∧ MOk K M P H ∧ S ds M Φ Ξ ∧ (∀ v H', Fin K P Φ v H' → Q v H') ∧ ∀ c d H', FinX K P Ξ c d H' → E c d H'
section
variable {P : Program} {w : World} {K : PySem.W.Frag} {mg : Str → Option Value} {base : Heap} {x qual : Str} {params : Arguments} {body : List Stmt} {scope : Scope} {dvs : List V} {kws : List (Str × V)} {f : Addr} {fd : FuncData}
/-- THE RULE for a def that may raise -/
theorem fn_dataX {N ps : List Str} {k : Nat} {S : DSx} (F : FunD K x qual params body scope dvs kws f fd) (Sc : FnScope N ps scope) (len : ∀ ds M Φ Ξ, S ds M Φ Ξ → ds.length = ps.length)
    (hbody : ∀ (cdv : Value) (A : Around) (outer : List Env) (s : Shared) (H : Hp) (E : XK) (ds : List D) (M : Mem) (Φ : VP) (Ξ : XP), Room k (A.deeper (envOfC qual scope s.heap.objs.size f cdv)) → S ds M Φ Ξ →
      WSx (cxOf (L2.CX P w) P w K mg base N qual scope f cdv A outer s H E) (startD N.length ds) M body { nx := fun _ M' => Φ .non M', rt := Φ } Ξ) : FnOk P w K mg base (L2.CX P w) (k + 1) f fd ps (spOfX K S) := by
  refine F.ok Sc (fun vs H Q E h => ?_) (fun cdv A outer s H vs Q E hr h => ?_)
  · obtain ⟨P1, M, ds, Φ, Ξ, i, m, hs, _⟩ := h
    rw [i.1]
    exact len _ _ _ _ hs
  · obtain ⟨P1, M, ds, Φ, Ξ, i, m, hs, hq, hx⟩ := h
    refine ⟨_, pss_wp, ?_⟩
    have tk : Takes (cxOf (L2.CX P w) P w K mg base N qual scope f cdv A outer s H E) (fun cls d _ H => E cls d H) := takes_of rfl rfl rfl rfl
    refine (hbody cdv A outer s H E ds M Φ Ξ hr hs P1 (L2.start N vs) H (sok_start i) m (tk.imp fun _ _ _ _ z => hx _ _ _ z.2)).mono ⟨fun σ' H' ⟨Γ', M', P', q, e, _, m'⟩ => hq _ _ ⟨.non, M', P', q, e, m', .non⟩, fun v H' z => hq v H' z, fun _ _ ⟨_, _, _, z, _⟩ => z.elim, fun _ _ ⟨_, _, _, z, _⟩ => z.elim⟩
end
/-- a def, a maker, that may raise -/
def HasFnX (P : Program) (w : World) (K : PySem.W.Frag) (mg : Str → Option Value) (base : Heap) (k : Nat) (x : Str) (S : DSx) : Prop :=
  ∃ f fd ps, FnOk P w K mg base (L2.CX P w) k f fd ps (spOfX K S) ∧ mg x = some (.ref f) ∧ PySem.W.keepIn K (.ref f) = true ∧ Binds K fd ps []
def HasMkX (P : Program) (w : World) (K : PySem.W.Frag) (mg : Str → Option Value) (base : Heap) (k : Nat) (C : Addr) (x : Str) (ds : List D) (S : DSx) : Prop :=
  ∃ f fd ps us vs, FnOk P w K mg base (L2.CX P w) k f fd ps (spOfX K S) ∧ Mk K C f ∧ mg x = some (.ref C) ∧ Binds K fd ps us ∧ Vals vs us ∧ ∀ P, IsDs K P vs ds
/-- an own error's class: x its one attribute -/
def HasEx (P : Program) (w : World) (K : PySem.W.Frag) (mg : Str → Option Value) (base : Heap) (k : Nat) (C : Addr) (n x : Str) : Prop :=
  ∃ fI fd ps, OexC K C ∧ PySem.W.findIn K (.ref C) "__init__" = some (some (.ref fI)) ∧ PySem.W.typeIn K (.ref fI) = some (.type "function") ∧ FnOk P w K mg base CX0 k fI fd ps (spSup C x) ∧ Binds K fd ps [] ∧ mg n = some (.ref C)
section
variable {X : Cx} {Γ : Sl} {M : Mem} {Φ : VP} {Ψ : Po} {Ξ : XP} {e a b c o : Expr} {es : List Expr} {pos p pos' apos : Pos} {k : Nat} {x f : Str} {S : DSx} {st : Stmt} {sts : List Stmt}
/-! ### nothing is raised -/
theorem wex_of (h : WE X Γ M e Φ) : WEx X Γ M e Φ Ξ := fun P σ H s m _ => h P σ H s m
theorem w1x_of (h : W1 X Γ M st Ψ) : W1x X Γ M st Ψ Ξ := fun P σ H s m _ => h P σ H s m
theorem wsx_of (h : WS X Γ M sts Ψ) : WSx X Γ M sts Ψ Ξ := fun P σ H s m _ => h P σ H s m
theorem wx_nil (h : Ψ.nx Γ M) : WSx X Γ M [] Ψ Ξ := wsx_of (ws_nil h)
theorem wx_cons (h : W1x X Γ M st { Ψ with nx := fun Γ' M' => WSx X Γ' M' sts Ψ Ξ } Ξ) : WSx X Γ M (st :: sts) Ψ Ξ := fun P σ H s m tk =>
  wpSs_of (pss_cons ps_wp pss_wp) ((h P σ H s m tk).mono ⟨fun σ' H' ⟨Γ', M', P', q, e, s', m'⟩ => (q P' σ' H' s' m' (tk_up e tk)).mono (Ψ.up e), fun _ _ z => z, fun _ _ z => z, fun _ _ z => z⟩)
/-- a statement that raises nothing, then what may raise -/
theorem wx_1 (h : W1 X Γ M st { Ψ with nx := fun Γ' M' => WSx X Γ' M' sts Ψ Ξ }) : WSx X Γ M (st :: sts) Ψ Ξ := wx_cons (w1x_of h)
theorem WSx.weak {Γ' : Sl} {M' : Mem} (h : WSx X Γ' M' sts Ψ Ξ) (hl : Γ'.length = Γ.length) (hi : ∀ (i : Nat) (d : D), Γ'[i]? = some (some d) → Γ[i]? = some (some d)) (hm : M'.Sublist M) : WSx X Γ M sts Ψ Ξ := fun P σ H s m tk => h P σ H (s.weak hl hi) (m.sub hm) tk
theorem wx_if {A E sts : List Stmt} (h : WT X Γ M c fun k M1 => (k = true → WSx X Γ M1 A { Ψ with nx := fun Γ' M' => WSx X Γ' M' sts Ψ Ξ } Ξ) ∧ (k = false → WSx X Γ M1 E { Ψ with nx := fun Γ' M' => WSx X Γ' M' sts Ψ Ξ } Ξ)) : WSx X Γ M (.If c A E pos :: sts) Ψ Ξ := wx_cons fun P σ H s m tk =>
  wpS_of (ps_if pt_wp pss_wp pss_wp) ((h P σ H s m).mono fun k H1 ⟨M1, P1, q, e1, m1⟩ => by
    cases k with
    | true => exact iteT ((q.1 rfl P1 σ H1 (s.mono e1) m1 (tk_up e1 tk)).mono (Po.up _ e1))
    | false => exact iteF ((q.2 rfl P1 σ H1 (s.mono e1) m1 (tk_up e1 tk)).mono (Po.up _ e1)))
theorem wx_expr (h : WEx X Γ M e (fun _ M1 => WSx X Γ M1 sts Ψ Ξ) Ξ) (hs : swapsWith e none pos.line X.env = pure false := by rfl) : WSx X Γ M (.Expr e pos :: sts) Ψ Ξ := wx_cons fun P σ H s m tk =>
  wpS_of (ps_expr pe_wp hs) ((h P σ H s m tk).mono fun v H1 ⟨d, M1, P1, q, e1, m1, i1⟩ => ⟨Γ, M1, P1, q, e1, s.mono e1, m1⟩)
theorem wx_set (i : Nat) {x : Str} (hN : X.N.Nodup) (h : WEx X Γ M e (fun d M1 => WSx X (Γ.set i (some d)) M1 sts Ψ Ξ) Ξ) (hi : X.N[i]? = some x := by rfl) (hx : Loc X.env.scope x := by first | exact Or.inl rfl | exact Or.inr rfl) (hs : swapsWith e (some (.Name x pos')) pos.line X.env = pure false := by rfl)
    (hf : X.fn x = true ∨ X.env.scope.names.lookup x = some .local := by first | exact .inl rfl | exact .inr rfl) : WSx X Γ M (.Assign [.Name x pos'] e pos :: sts) Ψ Ξ := wx_cons fun P σ H s m tk =>
  wpS_of (ps_set hN hi hx pe_wp hs hf) ((h P σ H s m tk).mono fun v H1 ⟨d, M1, P1, q, e1, m1, i1⟩ => ⟨_, M1, P1, q, e1, (s.mono e1).set i1, m1⟩)
theorem wx_ret (h : WEx X Γ M e Ψ.rt Ξ) : WSx X Γ M (.Return (some e) pos :: sts) Ψ Ξ := wx_cons fun P σ H s m tk => wpS_of (ps_ret pe_wp) (h P σ H s m tk)
/-! ### raise -/
theorem del_upd {H : Hp} {a dx : Addr} {o1 o2 o3 o4 : HO} (ha : H a = none) (hne : dx ≠ a) : upd (del (upd (upd (upd H a o1) dx o2) a o3) a) dx o4 = upd H dx o4 := by
  funext b
  by_cases h1 : b = dx
  · subst h1
    rw [upd_same, upd_same]
  · rw [upd_ne h1, upd_ne h1]
    by_cases h2 : b = a
    · subst h2
      rw [del_same, ha]
    · rw [del_ne h2, upd_ne h2, upd_ne h1, upd_ne h2]
theorem wx_raise {C : Addr} {n : Str} (F : HasEx X.prog X.w X.K X.mg X.base k C n f) (hr : Room (k + 1) X.A) (h : WA X Γ M [e] fun ds M1 => ∃ d, ds = [d] ∧ Ξ C [(f, d)] M1) (hc : X.calm = true := by rfl) (hg : Gl X n := by rfl)
    (hdb : (n == ("__debug__" : Str)) = false := by decide) (he : starEach [e] X.env = (false, eval e X.env) :: starEach [] X.env := by rfl) : WSx X Γ M (.Raise (some (.Call (.Name n p) [e] [] pos')) none pos :: sts) Ψ Ξ := wx_cons fun P σ H s m tk => by
  obtain ⟨fI, fd, ps, T, iC, tI, F1, hb, hm⟩ := F
  intro pins sh I
  refine (ps_raise hc tk (pmk_oex T iC tI F1 hr hb .nil pass0 hg hm pa_wp hdb he (by rfl))).run pins sh σ H _ I ?_
  refine (h P σ H s m).mono fun vs H1 ⟨ds, M1, P1, ⟨d, ed, q⟩, e1, m1, i1⟩ => ?_
  subst ed
  obtain ⟨v, r, rfl, hv, hr2⟩ := i1.uncons
  obtain rfl := hr2.unnil
  refine ⟨(show 1 ≤ 1000 by decide), fun a ha => ⟨a, v, rfl, upd_same, fun dx hdx hne => ⟨rfl, dx, [(f, v)], upd_same, ?_, ?_, ?_⟩⟩⟩
  · rw [upd_ne hne, upd_same]
  · rw [upd_ne hne] at hdx
    exact hdx
  · rw [upd_ne hne] at hdx
    rw [del_upd ha hne]
    obtain ⟨m2, e2⟩ := m1.push (o := .xd [(f, v)]) hdx
    exact ⟨I.len, C, dx, [(f, v)], [(f, d)], M1, _, rfl, rfl, upd_same, .cons (hv.mono e2) .nil, q, e1.trans e2, m2⟩
/-! ### calls -/
theorem pass_x {P : Hp} (tk : Takes X (WXP X P Ξ)) : Passes (L2.CX X.prog X.w) X (FinX X.K P Ξ) := fun _ σ _ _ e s' I c => tk e s' (XE.of_call I (fun cls d H' h => ⟨I.len, h⟩) c)
theorem wxc (F : HasFnX X.prog X.w X.K X.mg X.base k x S) (hr : Room k X.A) (h : WA X Γ M (e :: es) fun ds M1 => S ds M1 Φ Ξ) (hg : Gl X x := by rfl) (hdb : (x == ("__debug__" : Str)) = false := by decide) (he : starEach (e :: es) X.env = (false, eval e X.env) :: starEach es X.env := by rfl)
    (hpl : (backTo pos (starEach es X.env)).any (·.1) = false := by rfl) : WEx X Γ M (.Call (.Name x p) (e :: es) [] pos) Φ Ξ := fun P σ H s m tk => by
  obtain ⟨f, fd, ps, F1, hm, hk, hb⟩ := F
  exact wpT_of (pe_call F1 hr hg hm hk hb .nil (pass_x tk) pa_wp hdb he hpl) ((h P σ H s m).mono fun vs H1 ⟨ds, M1, P1, q, e1, m1, i1⟩ =>
    ⟨P1, M1, ds, Φ, Ξ, by rw [List.append_nil]; exact i1, m1, q, fun v H' z => z.up e1, fun _ _ _ z => z.up e1⟩)
/-- C(e, ..): the half-made object is let go if it raises -/
theorem wxm {C : Addr} {dfs : List D} (F : HasMkX X.prog X.w X.K X.mg X.base k C x dfs S) (hr : Room (k + 1) X.A)
    (h : WA X Γ M (e :: es) fun ds M1 => ∀ l, S (.adr l :: (ds ++ dfs)) ((l, .ins C []) :: M1) (fun r M2 => r = .non ∧ ∃ fs M3, M2 = (l, .ins C fs) :: M3 ∧ Φ (.obj C fs) M3) (fun C' as M2 => ∃ o M3, M2 = (l, o) :: M3 ∧ Ξ C' as M3))
    (hg : Gl X x := by rfl) (hdb : (x == ("__debug__" : Str)) = false := by decide) (he : starEach (e :: es) X.env = (false, eval e X.env) :: starEach es X.env := by rfl) (hpl : (backTo pos (starEach es X.env)).any (·.1) = false := by rfl) : WEx X Γ M (.Call (.Name x p) (e :: es) [] pos) Φ Ξ := fun P σ H s m tk => by
  obtain ⟨f, fd, ps, us, vs0, F1, mk, hm, hb, hv0, hd0⟩ := F
  refine wpT_of (pe_make mk F1 hr hg hm hb hv0 (pass_x tk) pa_wp hdb he hpl) ((h P σ H s m).mono fun vs H1 ⟨ds, M1, P1, q, e1, m1, i1⟩ => ?_)
  intro l dx hl hdx hne
  obtain ⟨m2, e2⟩ := m1.push (o := .own l) hdx
  have hl2 : upd H1 dx (.own l) l = none := by
    rw [upd_ne (fun z => hne z.symm)]
    exact hl
  have m3 : MOk X.K ((l, .ins C []) :: M1) (upd P1 dx (.own l)) (upd (upd H1 dx (.own l)) l (.ins C dx [])) := m2.own hl2 ⟨dx, [], upd_same, .nil⟩
  refine ⟨_, _, _, _, _, .cons .adr ((i1.mono e2).append (hd0 _)), m3, q l, fun v H' z => ?_, fun c' d' H' z => ?_⟩
  · obtain ⟨d4, M4, P4, ⟨z1, fs, M5, z2, z3⟩, z4, z5, z6⟩ := z
    subst z1 z2
    cases z6
    obtain ⟨P6, e6, m6, i6⟩ := frz_ins z5
    exact ⟨rfl, _, M5, P6, z3, ((e1.trans e2).trans z4).trans e6, m6, i6⟩
  · obtain ⟨C', dd, fs, as, M4, P4, z1, z2, z3, z4, ⟨o, M5, z5, z6⟩, z7, z8⟩ := z
    subst z5
    exact ⟨C', dd, fs, as, M5, P4, z1, z2, z3, z4, z6, (e1.trans e2).trans z7, z8.tail⟩
end
/-! ### try: e0 / except x as n: v = n.f if test else c -/
/-- what the class of a caught error must say -/
structure XcC (K : PySem.W.Frag) (C : Addr) (f : Str) : Prop where
  xf : XfC K C
  no : PySem.W.findIn K (.ref C) f = some none
  own : PySem.W.findIn K (.ref C) "__class__" = some (some (.builtin "object.__class__"))
  get : PySem.W.specialIn K (.builtin "object.__class__") "__get__" = some (some (.builtin "getset_descriptor.__get__"))
  tak : PySem.W.takesIn K (.builtin "object.__class__") = some true
  mro : PySem.W.mroIn K C (.type "object") = some true
def rIsX (K : PySem.W.Frag) (C a dd : Addr) : List V → Hp → VK → Prop := fun xs H Q => ∃ (c : V) (cv : Value) (b : Bool) (fs : List (Str × V)), xs = [.ref a, c] ∧ (∀ u, RelV c u → u = cv) ∧ PySem.W.kitOne K (.ref C) cv = some b ∧ H dd = some (.xd fs) ∧ Q (.bl b) H
theorem call_isX {X : Cx} {a C dd : Addr} {oe : Obj} {f : Str} {pn : List (Addr × Obj)} (T : XcC X.K C f) (hz : Zc (.ref C) (some dd) oe) (hf : ∃ vs, oe.data = .fields vs) : CallR (X.suite a ((a, oe) :: pn)) (.builtin "isinstance") (rIsX X.K C a dd) := by
  intro pins s σ H xs us Q I r h
  obtain ⟨c, cv, b, fs, rfl, hcv, e, hd, q⟩ := h
  cases r with
  | cons rx rr =>
    cases rr with
    | cons rt rr =>
      cases rr
      cases rx
      have ec := hcv _ rt
      subst ec
      obtain ⟨hget, _⟩ := I.pin (a, oe) (List.mem_append.mpr (.inl List.mem_cons_self))
      obtain ⟨vs, hv⟩ := hf
      obtain ⟨mA, hns, hr⟩ : ObjOk X.prog X.w H s.heap dd (.xd fs) := I.hok dd _ hd
      obtain ⟨od, ho, hl⟩ := lookIn_ns hns
      have J : PySem.W.InstAt s.heap a oe C (some od) := ⟨hget, hz.1, by unfold PySem.W.notCls; rw [hv] <;> rfl, by rw [hz.2]; exact ho⟩
      have hcl : (PySem.W.clsIn X.K C).isSome = true := by
        obtain ⟨cd, hc, _⟩ := PySem.W.any_some T.xf.hdC
        rw [hc]
        rfl
      exact PySem.W.kia_one (PySem.W.kitx_exc hcl T.xf.ga T.xf.gg T.xf.exC T.own T.get T.tak T.mro) I.kIn J e (fun z => nomatch z) fun tk => ⟨.bl b, H, I.kept (t' := tk) fun _ _ z => z, rfl, q⟩
/-- a test that is known -/
def TsE (Y : Cx) (t : Expr) (σ : L2.St) (H : Hp) (b : Bool) : Prop := ∀ Q : Bool → Hp → Prop, (∀ H', Ex H H' → Q b H') → wpB Y t σ H Q
theorem MOk.grow {K : PySem.W.Frag} {M : Mem} {P H H' : Hp} (m : MOk K M P H) (e : Ex H H') : MOk K M P H' := ⟨m.ex.trans e, m.nd, fun a o h => by
  obtain ⟨h1, h2⟩ := m.at_ a o h
  obtain ⟨u, hu⟩ := h2.some
  exact ⟨h1, h2.mono (Same.refl P) (by rw [hu, e _ _ hu])⟩⟩
section
variable {Y : Cx} {t t2 : Expr} {σ : L2.St} {H : Hp} {b : Bool} {pos : Pos}
theorem ts_not (h : TsE Y t σ H b) : TsE Y (.UnaryOp .Not t pos) σ H (!b) := fun Q q => wpB_of (pt_not pt_wp) (h _ q)
theorem ts_and (h : TsE Y t σ H true) (h2 : ∀ H', Ex H H' → TsE Y t2 σ H' b) : TsE Y (.BoolOp .And [t, t2] pos) σ H b := fun Q q => wpB_of pw_wp.pt (wpW_of (pw_and pt_wp pw_wp) (h _ fun H' e => iteT (wpW_of (pw_and1 pt_wp) (h2 H' e _ fun H'' e2 => q _ (e.trans e2)))))
theorem ts_isi {X : Cx} {a C B dd : Addr} {oe : Obj} {f n y : Str} {fs : List (Str × V)} {i : Nat} {pn : List (Addr × Obj)} {p p1 p2 : Pos} (T : XcC X.K C f) (hz : Zc (.ref C) (some dd) oe) (hf : ∃ vs, oe.data = .fields vs) (hd : H dd = some (.xd fs)) (hσ : σ[i]? = some (some (.ref a)))
    (hk : PySem.W.kitOne X.K (.ref C) (.ref B) = some b) (hm : X.mg "isinstance" = none) (hB : X.mg y = some (.ref B)) (hi : X.N[i]? = some n) (hv : Vis X.env.scope n) (hg : Gl X "isinstance") (hgB : Gl X y)
    (hdn : (n == ("__debug__" : Str)) = false) (hcn : (n == ("__classdict__" : Str)) = false) (hdB : (y == ("__debug__" : Str)) = false)
    (h1 : starEach [.Name n p1, .Name y p2] X.env = (false, eval (.Name n p1) X.env) :: starEach [.Name y p2] X.env) (h2 : starEach [.Name y p2] X.env = (false, eval (.Name y p2) X.env) :: starEach [] X.env) (h3 : (backTo pos (starEach [.Name y p2] X.env)).any (·.1) = false) :
    TsE (X.suite a ((a, oe) :: pn)) (.Call (.Name "isinstance" p) [.Name n p1, .Name y p2] [] pos) σ H b := fun Q q => by
  have hT : wpT (X.suite a ((a, oe) :: pn)) (.Call (.Name "isinstance" p) [.Name n p1, .Name y p2] [] pos) σ H fun v H1 => v = .bl b ∧ H1 = H := by
    refine wpT_of (pe_callB (call_isX T hz hf) hg hm boot_isinstance (pa_cons (pe_var hi hv hdn hcn) (pa_cons (pe_glob (v := .ref B) hgB hB rfl hdB) pa_nil h2) h1) (by decide) (by decide) h1 h3) ?_
    exact ⟨_, hσ, .ref B, .ref B, b, fs, rfl, fun u z => z, hk, hd, rfl, rfl⟩
  refine wpB_of (pt_val pe_wp (fun _ => rfl)) (hT.mono fun v H1 ⟨e1, e2⟩ => ?_)
  subst e1 e2
  exact ⟨b, rfl, q _ (Same.refl _)⟩
end
section
variable {X : Cx} {Γ : Sl} {M : Mem} {Ψ : Po} {body : List Stmt} {els test : Expr} {x n f fnd : Str} {c : Value} {i j : Nat} {np pos pos' pf pn1 pa pi ps : Pos} {sts : List Stmt}
/-- THE RULE: v = n.f behind an error that the clause names; the other slots are forgotten -/
theorem w1_try (hN : X.N.Nodup) (hi : X.N[i]? = some n) (hj : X.N[j]? = some fnd) (hij : i ≠ j) (hc : Names X x c) (hbody : ∀ (pn : List (Addr × Obj)) (xe : Value → Shared → Prop), PassesOwn (model X.prog X.w) X.A X.env xe → WSx (X.tr pn xe) Γ M body Ψ fun C ds M' => ∃ d, ds.lookup f = some d ∧ XcC X.K C f ∧ PySem.W.exmOne X.K (.ref C) c = some true ∧
      (∀ (a : Addr) (oe : Obj) (pn : List (Addr × Obj)) (dd : Addr) (fs : List (Str × V)) (σ : L2.St) (H : Hp), Zc (.ref C) (some dd) oe → (∃ vs, oe.data = .fields vs) → H dd = some (.xd fs) → σ[i]? = some (some (.ref a)) → TsE (X.suite a ((a, oe) :: pn)) test σ H true) ∧
      Ψ.nx ((List.replicate X.N.length none).set j (some d)) M')
    (hs : X.stack = X.env :: X.outer := by rfl) (hf : X.env.frame = some X.env.locals := by rfl) (hln : X.env.kindOf n = some .local := by rfl) (hv : Vis X.env.scope n := by first | exact Or.inl rfl | exact Or.inr (Or.inl rfl) | exact Or.inr (Or.inr rfl)) (hl : Loc X.env.scope fnd := by first | exact Or.inl rfl | exact Or.inr rfl)
    (hdn : (n == ("__debug__" : Str)) = false := by decide) (hcn : (n == ("__classdict__" : Str)) = false := by decide)
    (hsw : swapsWith (.IfExp test (.Attribute (.Name n pn1) f pa) els pi) (some (.Name fnd pf)) ps.line X.env = pure false := by rfl) (hff : X.fn fnd = true ∨ X.env.scope.names.lookup fnd = some .local := by first | exact .inl rfl | exact .inr rfl)
    (hb : attributeBase (.Name n pn1) f X.env (eval (.Name n pn1) X.env) = eval (.Name n pn1) X.env := by rfl) :
    W1 X Γ M (.Try body [.ExceptHandler (some (.Name x np)) (some n) [.Assign [.Name fnd pf] (.IfExp test (.Attribute (.Name n pn1) f pa) els pi) ps] pos'] [] [] pos) Ψ := fun P σ H s m => by
  have tk0 : Takes X (fun _ _ _ _ => False) := fun u s' ⟨_, _, _, _, _, _, _, _, _, _, _, _, _, _, _, _, w⟩ => w.elim
  refine wpS_of (ps_try_as (tb := fun W D σ H => ∀ pn xe, Takes (X.tr pn xe) W → PassesOwn (model X.prog X.w) X.A X.env xe → wpSs (X.tr pn xe) body D σ H)
    (ts := fun a cls d D σ H => ∀ oe pn, Zc cls d oe → (∃ vs, oe.data = .fields vs) → wpSs (X.suite a ((a, oe) :: pn)) [.Assign [.Name fnd pf] (.IfExp test (.Attribute (.Name n pn1) f pa) els pi) ps] D σ H) hs hf hN hi hln hc tk0
    (fun W pn xe tk po => ⟨fun pins s σ H D I h => h pn xe tk po pins s I⟩) (fun a oe cls d pn hz hff => ⟨fun pins s σ H D I h => h oe pn hz hff pins s I⟩)) ?_
  intro pn xe tk po
  refine hbody pn xe po P σ H s m (tk.imp fun cls d σ' H' ⟨hlen, C, dd, fs, ds, M', P2, e1, e2, hdd, hfs, ⟨dv, hlk, T, hex, hts, hnx⟩, eP, mP⟩ => ?_)
  subst e1 e2
  refine ⟨true, hex, fun _ a ha oe pn' hz hfl => ?_, fun z => nomatch z⟩
  obtain ⟨v, hv1, hv2⟩ := hfs.lookup hlk
  have hin : i < σ'.length := by
    rw [hlen]
    exact (List.getElem?_eq_some_iff.mp hi).1
  have hσ : (σ'.set i (some (V.ref a)))[i]? = some (some (.ref a)) := by rw [List.getElem?_set_self hin]
  have hHd : H' dd = some (.xd fs) := mP.ex _ _ hdd
  refine wpSs_of (pss_one (ps_set (X := X.suite a ((a, oe) :: pn')) hN hj hl pe_wp hsw hff)) ?_
  refine wpT_of (pe_ifExp pt_wp pe_wp pe_wp) (hts a oe pn' dd fs _ H' hz hfl hHd hσ _ fun H2 eH => iteT ?_)
  refine wpT_of (pe_xf T.xf T.no hz hfl (pe_var hi hv hdn hcn) hb) ⟨_, hσ, rfl, rfl, dd, fs, v, rfl, eH _ _ hHd, hv1, ?_⟩
  refine ⟨_, M', P2, hnx, eP, ⟨?_, fun q d hq => ?_⟩, mP.grow eH⟩
  · rw [List.length_set, List.length_replicate, List.length_set, List.length_set, List.length_set, hlen]
  · have hq' : q = j ∧ d = dv := by
      by_cases hqj : j = q
      · subst hqj
        refine ⟨rfl, ?_⟩
        have hb2 : j < (List.replicate X.N.length (none : Option D)).length := by
          rw [List.length_replicate]
          exact (List.getElem?_eq_some_iff.mp hj).1
        rw [List.getElem?_set_self hb2] at hq
        cases hq
        rfl
      · rw [List.getElem?_set_ne hqj] at hq
        have z := (List.mem_replicate.mp (List.mem_of_getElem? hq)).2
        cases z
    obtain ⟨rfl, rfl⟩ := hq'
    refine ⟨v, ?_, hv2⟩
    rw [List.getElem?_set_ne hij, List.getElem?_set_self]
    rw [List.length_set, hlen]
    exact (List.getElem?_eq_some_iff.mp hj).1
end
end Dt

set_option Elab.async false
set_option linter.all false
set_option maxRecDepth 100000
set_option maxHeartbeats 4000000
/-! Dt, part 25: dicts whose keys are tuples of numbers: {t: v for t in ..}, t in d. -/
namespace Dt
open PySem PySem.Spec PyProof.Rows L2
/-! ### such a dict at the heap -/
theorem items_int {P : Program} {w : World} : ∀ (ks : List Int) (us : List Value), Vals (ks.map V.int) us → ItemsAre (intKind P w) ks us
  | [], us, r => by
    cases (show Vals [] us from r)
    exact .nil
  | k :: ks, us, r => by
    cases (show Vals (V.int k :: ks.map V.int) us from r) with
    | @cons _ u _ ur h t =>
      refine .cons ?_ (items_int ks ur t)
      obtain ⟨tk, rfl⟩ : ∃ tk, u = Value.int k tk := h
      show Value.isInt k (.int k tk) = true
      simp [Value.isInt]
section
variable {X : Cx} {pins : List (Addr × Obj)} {σ : L2.St} {H : Hp} {s : Shared} {a b : Addr} {ks : List Int} {xs : List (List Int × Addr × Value)}
theorem key_int (I : Inv X pins σ H s) (h : SqT X.K H b (ks.map V.int)) : (tupleKind (intKind X.prog X.w)).is s.heap ks b := by
  obtain ⟨its, r, ⟨o, h1, h2, n, h3⟩, _⟩ := I.tuple h
  exact ⟨o, its.toArray, n, h1, h2, h3, items_int _ _ (by simpa using r)⟩
theorem td_at (I : Inv X pins σ H s) (h : H a = some (tdO a xs)) (hi : ∀ x ∈ xs, SqT X.K H x.2.1 (x.1.map V.int)) : (a == sysModules) = false ∧ xs.length ≤ sizeLine ∧ s.heap.DictOfH (tupleKind (intKind X.prog X.w)) a xs := by
  obtain ⟨⟨h1, h2, h3, o, es, ep, g1, g2, g3, g4⟩, _, _⟩ : ObjOk X.prog X.w H s.heap a (tdO a xs) := I.hok a _ h
  exact ⟨h1, h2, o, es, ep, g1, g2, g3, g4, fun x hx => key_int I (hi x hx), h3⟩
theorem td_new {P : Program} {w : World} {h' : Heap} (h1 : (a == sysModules) = false) (h2 : xs.length ≤ sizeLine) (m : h'.DictOfH (tupleKind (intKind P w)) a xs) : ObjOk P w H h' a (tdO a xs) := by
  obtain ⟨o, es, ep, g1, g2, g3, g4, _, g6⟩ := m
  refine ⟨⟨h1, h2, g6, o, es, ep, g1, g2, g3, g4⟩, ⟨o, g1⟩, ?_⟩
  rintro y1 y2 ⟨q1, q2, q3, o', es', ep', q4, q5⟩ k
  exact ⟨q1, q2, q3, o', es', ep', k o' q4, q5⟩
/-- a key more -/
def addK (l : List (List Int)) (k : List Int) : List (List Int) := if k ∈ l then l else l ++ [k]
theorem find_key : ∀ (xs : List (List Int × Addr × Value)) (k : List Int), (atKey xs k).isSome = decide (k ∈ xs.map (·.1))
  | [], k => by simp [atKey]
  | x :: xs, k => by
    have ih := find_key xs k
    unfold atKey at ih ⊢
    rw [List.find?_cons]
    by_cases h : x.1 = k
    · simp [h]
    · have h' : ¬ k = x.1 := fun z => h z.symm
      simp only [h, decide_false, List.map_cons, List.mem_cons, h', false_or]
      exact ih
theorem keys_add {k : List Int} {v : Value} : (storedH xs k b v).map (·.1) = addK (xs.map (·.1)) k := by
  unfold storedH addK
  rw [find_key]
  by_cases h : k ∈ xs.map (·.1)
  · rw [decide_eq_true h, if_pos rfl, if_pos h, keys_map_putAt]
  · rw [decide_eq_false h, if_neg Bool.false_ne_true, if_neg h, List.map_append]
    rfl
theorem stored_len {k : List Int} {v : Value} : (storedH xs k b v).length ≤ xs.length + 1 := by
  unfold storedH
  split
  · rw [List.length_map]
    exact Nat.le_succ _
  · rw [List.length_append]
    exact Nat.le_refl _
theorem stored_sq {K : PySem.W.Frag} {k : List Int} {v : Value} (hb : SqT K H b (k.map V.int)) (hi : ∀ x ∈ xs, SqT K H x.2.1 (x.1.map V.int)) : ∀ x ∈ storedH xs k b v, SqT K H x.2.1 (x.1.map V.int) := by
  intro x hx
  unfold storedH at hx
  split at hx
  · obtain ⟨y, hy, rfl⟩ := List.mem_map.mp hx
    have z := hi y hy
    unfold putAt
    split
    · exact z
    · exact z
  · rcases List.mem_append.mp hx with h | h
    · exact hi x h
    · rw [List.mem_singleton] at h
      subst h
      exact hb
/-- d[t] = v -/
theorem td_set {v : Value} {Q : Unit → Shared → Prop} {E : Value → Shared → Prop} (hu : X.A.units < cLine) (I : Inv X pins σ H s) (h : H a = some (tdO a xs)) (hi : ∀ x ∈ xs, SqT X.K H x.2.1 (x.1.map V.int)) (hb : SqT X.K H b (ks.map V.int)) (hl : xs.length < sizeLine)
    (q : ∀ s', Inv X pins σ (upd H a (tdO a (storedH xs ks b v))) s' → Q () s') : wpAny (model X.prog X.w) X.A (dictSet a (.ref b) v) Q E s := by
  obtain ⟨h1, h2, m⟩ := td_at I h hi
  refine wpAny_dictSet_heap (knd := tupleKind (intKind X.prog X.w)) hu (key_int I hb) m (fun h' m' sb => q _ ?_) h2
  have l2 : (storedH xs ks b v).length ≤ sizeLine := Nat.le_trans stored_len hl
  have e2 : ∃ o, h'.get? a = some o := by
    obtain ⟨o, _, _, g, _⟩ := m'
    exact ⟨o, g⟩
  exact I.write (x := a) (e := a) (by rw [h]; exact True.intro) (.inl rfl) (fun c o hc z => (sb.2 c hc).trans z) e2 (td_new h1 l2 m')
end
/-! ### the comprehension -/
section
variable {X : Cx}
/-- {kx: vx for tg in iter}: o0 the new dict, St what a store does -/
def tDx (o0 : Addr → HO) (St : Addr → V → V → Hp → (Hp → Prop) → Prop) (wi : TI) (g : TG) (tk tv : TE) (vs : List Nat) : TE := fun σ H Q => wi σ H fun J H1 => ∀ D, H1 D = none → ∃ W : Nat → Nat → Hp → Prop, (∃ m, W 0 m (upd H1 D (o0 D))) ∧
  ∀ i m H, W i m H → (J.stop i H ∧ Q (.ref D) H) ∨ (J.go i H ∧ ∃ Nx : Hp → Prop, (∀ H', Nx H' → ∃ m', m' < m ∧ W (i + 1) m' H') ∧ ∀ x H', J.yld i H x H' → g x (wipe σ vs) H' fun σ2 H2 => wipe σ2 vs = wipe σ vs ∧ tk σ2 H2 fun y H4 => tv σ2 H4 fun z H5 => St D y z H5 Nx)
theorem pe_dx {kx vx tg iter : Expr} {scope : Scope} {own : List (Str × Nat)} {pos : Pos} {wi : TI} {g : TG} {tk tv : TE} (o0 : Addr → HO) (St : Addr → V → V → Hp → (Hp → Prop) → Prop)
    (hO : ∀ (G : Hp) (h : Heap), sysModules < h.objs.size → ObjOk X.prog X.w G (h.push { cls := .type "dict", data := .dict #[] }) h.objs.size (o0 h.objs.size))
    (hS : ∀ (s0 : Shared) (H0 : Hp) (ce : Env) (fp : List Addr) (pins : List (Addr × Obj)) (σ : L2.St) (G : Hp) (s : Shared) (D : Addr) (y z : V) (u r : Value) (Nx : Hp → Prop) (Q : Unit → Shared → Prop) (E : Value → Shared → Prop), Inv (X.blk s0 H0 scope ce fp) pins σ G s → RelV y u → RelV z r → St D y z G Nx →
      (∀ s' G', Inv (X.blk s0 H0 scope ce fp) pins σ G' s' → Nx G' → Q () s') → wpAny (model X.prog X.w) X.A (dictSet D u r) Q E s)
    (hc : X.calm = true) (hN : X.N.Nodup) (hi : PI X tg iter wi) (ok : BlkOk X.N X.env.scope scope own)
    (hg : ∀ (s : Shared) (H : Hp) (C : Addr) (cl : List (Str × Addr)) (fp : List Addr), PG (X.blk s H scope (compEnvC scope cl C X.env) fp) tg g)
    (hk : ∀ (s : Shared) (H : Hp) (C : Addr) (cl : List (Str × Addr)) (fp : List Addr), PE (X.blk s H scope (compEnvC scope cl C X.env) fp) kx tk)
    (hv : ∀ (s : Shared) (H : Hp) (C : Addr) (cl : List (Str × Addr)) (fp : List Addr), PE (X.blk s H scope (compEnvC scope cl C X.env) fp) vx tv) (hs : ∀ x, foldedSetIterable iter X.env x = pure x := by intro _; rfl) :
    PE X (.DictComp kx vx [⟨tg, iter, [], 0⟩] scope pos) (tDx o0 St wi g tk tv (own.map (·.2))) := by
  refine ⟨fun pins s σ H Q I h => ?_⟩
  rw [arm_eval_DictComp]
  have clo := closure_ok (env := X.env) (scope := scope) fun y hy e => (ok.free y hy e).elim (fun k => I.ok.has _ (.inl k)) fun k => I.ok.has _ (.inr k)
  refine wpAny_comprehension_free (use := none) rfl hs clo ok.kind (fun y hy e => by rw [ok.uniq y hy, e]) (thn (hi.run pins s σ H _ I h) fun xv t1 hx => thn hx fun itv t2 ⟨it, fp, tn, J, G2, eit, J2, T, a2, f2, q⟩ => ?_)
  subst eit
  refine wpAny_newObj_type (newEnv_comp ?_)
  obtain ⟨D, eD⟩ : ∃ D, D = t2.heap.objs.size := ⟨_, rfl⟩
  rw [← eD]
  obtain ⟨W, ⟨m0, w0⟩, turn⟩ := q D (J2.hok.fresh (Nat.le_of_eq eD.symm))
  obtain ⟨t3, e3⟩ : ∃ t3 : Shared, t3 = { t2 with heap := t2.heap.push { cls := .type "dict", data := .dict #[] } } := ⟨_, rfl⟩
  have p3 : t3.heap = t2.heap.push { cls := .type "dict", data := .dict #[] } := by rw [e3]
  have J3 : Inv X pins σ (upd G2 D (o0 D)) t3 := by
    rw [e3]
    refine J2.laid (t' := t2.toks) (fun b o e => Heap.get?_push_of_some _ e) (Nat.le_of_eq eD.symm) ?_
    have z := hO (upd G2 D (o0 D)) t2.heap J2.big
    rw [← eD] at z
    exact z
  have f3 : ∀ b ∈ fp, FpOk X pins (upd G2 D (o0 D)) b ∧ b < t3.heap.objs.size := fun b hb => by
    obtain ⟨o, e, _⟩ := T.obj _ _ a2 b hb
    have lt := Heap.lt_size e
    have ne : b ≠ D := by
      rw [eD]
      exact Nat.ne_of_lt lt
    exact ⟨⟨by rw [upd_ne ne]; exact (f2 b hb).1, (f2 b hb).2⟩, by rw [p3, Heap.size_push]; exact Nat.lt_succ_of_lt lt⟩
  have a3 : tn 0 t3.heap := T.keep _ _ _ a2 fun b _ o e => by
    rw [p3]
    exact Heap.get?_push_of_some _ e
  have J4 := block_start J3 ok hN f3
  have g4 := hg t3 (upd G2 D (o0 D)) t3.heap.objs.size (cellsFrom (t3.heap.objs.size + 1) scope.names (cloFrom X.env.cells scope.names [])) fp
  have k4 := hk t3 (upd G2 D (o0 D)) t3.heap.objs.size (cellsFrom (t3.heap.objs.size + 1) scope.names (cloFrom X.env.cells scope.names [])) fp
  have v4 := hv t3 (upd G2 D (o0 D)) t3.heap.objs.size (cellsFrom (t3.heap.objs.size + 1) scope.names (cloFrom X.env.cells scope.names [])) fp
  rw [show ({ t2 with heap := t2.heap.push { cls := .type "dict", data := .dict #[] } } : Shared) = t3 from e3.symm]
  show codeAny _ _ (.compStart (.DictComp kx vx [⟨tg, iter, [], 0⟩] scope pos) 0 (.ref it) (.ref D) (compEnvC scope (cellsFrom (t3.heap.objs.size + 1) scope.names (cloFrom X.env.cells scope.names [])) t3.heap.objs.size X.env)) (compPost (model X.prog X.w) X.A X.xe none (EP X pins σ Q) (.ref D) t3.heap.objs.size) { t3 with heap := pushCells (t3.heap.push { cls := .type "dict", data := .dict #[] }) scope.names }
  have n3 : ∀ b ∈ fp, (upd G2 D (o0 D)) b = none := fun b hb => (f3 b hb).1.1
  obtain ⟨ce, ece⟩ : ∃ ce, ce = compEnvC scope (cellsFrom (t3.heap.objs.size + 1) scope.names (cloFrom X.env.cells scope.names [])) t3.heap.objs.size X.env := ⟨_, rfl⟩
  have cL : ce.locals = t3.heap.objs.size := by rw [ece]; rfl
  rw [← ece] at J4 g4 k4 v4 ⊢
  obtain ⟨G3, eG3⟩ : ∃ G3, G3 = upd G2 D (o0 D) := ⟨_, rfl⟩
  rw [← eG3] at J3 J4 g4 k4 v4 w0 n3 f3
  obtain ⟨t4, et4⟩ : ∃ t4 : Shared, t4 = { t3 with heap := pushCells (t3.heap.push { cls := .type "dict", data := .dict #[] }) scope.names } := ⟨_, rfl⟩
  rw [← et4] at J4 ⊢
  have a4 : tn 0 t4.heap := T.keep _ _ _ a3 fun b _ o e => by
    rw [et4]
    exact pushCells_keeps _ _ _ _ (Heap.get?_push_of_some _ e)
  have fpk : ∀ {σ' : L2.St} {G : Hp} {s' : Shared}, Inv (X.blk t3 G3 scope ce fp) [] σ' G s' → (∀ b ∈ fp, G b = none) → ∀ b ∈ fp, FpOk (X.blk t3 G3 scope ce fp) [] G b := fun {σ' G s'} Z hn b hb =>
    ⟨hn b hb, (Z.ok.exf b hb).1, Z.ok.exfs b hb, .inl hb, fun x c e => (Z.ok.exf b hb).2 x c e, fun p hp => absurd (show p ∈ ([] : List (Addr × Obj)) ++ [] from hp) (by simp)⟩
  have loop : codeAny (model X.prog X.w) X.A (.compLoop (.DictComp kx vx [⟨tg, iter, [], 0⟩] scope pos) 0 (.ref it) (.ref D) ce) (compPost (model X.prog X.w) X.A X.xe none (EP X pins σ Q) (.ref D) t3.heap.objs.size) t4 := by
    refine compLoop_anyD (fun n s' => ∃ i G, Inv (X.blk t3 G3 scope ce fp) [] (wipe σ (own.map (·.2))) G s' ∧ tn i s'.heap ∧ (∀ b ∈ fp, G b = none) ∧ W i n G) ?_ m0 ⟨0, G3, J4, a4, n3, w0⟩
    rintro n t5 ⟨i, G5, J5, a5, n5, w5⟩
    rcases turn i n G5 w5 with ⟨stop, qq⟩ | ⟨go, Nx, hNx, step⟩
    · refine thnF (T.done (X.blk t3 G3 scope ce fp) rfl rfl rfl hc i [] t5 _ G5 (fun _ _ => False) J5 (fpk J5 n5) a5 stop) fun r t6 ⟨hr, J6⟩ => ?_
      subst hr
      have J7 : Inv X pins σ G5 t6 := J3.call' (ch := fp) J6.os J6.base J6.hok J6.bare fun b hb => by
        obtain ⟨⟨_, z1, _, z3, z4, z5⟩, _⟩ := f3 b hb
        exact ⟨z3, z1, z4, z5⟩
      have nC : G5 t3.heap.objs.size = none := by
        rw [← cL]
        exact J6.free
      obtain ⟨m, hn, _⟩ := J6.loc
      have hn : t6.heap.Ns t3.heap.objs.size m := by
        rw [← cL]
        exact hn
      obtain ⟨z0, z1, _, z3, z4, z5⟩ := J3.fpOk (Nat.le_refl _) nC
      exact ⟨m, hn, fun h'' sb => ⟨.ref D, G5, J7.turned (t' := t6.toks) (fun b o hb e => (sb.2 b hb).trans e) z0 z1 z3 z4 z5, rfl, qq⟩⟩
    · refine thnF (T.item (X.blk t3 G3 scope ce fp) rfl rfl rfl hc i [] t5 _ G5 (fun _ _ => False) J5 (fpk J5 n5) a5 go) fun r t6 ⟨u, hr, h6⟩ => ?_
      subst hr
      refine thnF h6 fun _ t7 ⟨x, G7, J7, r7, y7, a7, n7⟩ => ?_
      have J7p := J7.pinned (fpk J7 n7) (T.obj _ _ a7)
      refine thnF (g4.run _ t7 _ G7 x u _ J7p r7 (step x G7 y7)) fun _ t8 ⟨σ8, G8, J8, w8, q8⟩ => ?_
      refine thnF ((pts_nil (X := X.blk t3 G3 scope ce fp)).run _ t8 σ8 G8 (fun b G => b = true ∧ G = G8) J8 ⟨rfl, rfl⟩) fun b t9 ⟨G9, J9, eb, eg⟩ => ?_
      subst eb eg
      refine thnF (k4.run _ t9 σ8 _ _ J9 q8) fun z t10 ⟨yk, G10, J10, r10, q10⟩ => ?_
      refine thnF (v4.run _ t10 σ8 G10 _ J10 q10) fun z2 t11 ⟨yv, G11, J11, r11, q11⟩ => ?_
      refine hS t3 G3 ce fp _ σ8 G11 t11 D yk yv _ _ Nx _ _ J11 r10 r11 q11 fun s' G' J' nx => ?_
      obtain ⟨m', hm, w'⟩ := hNx G' nx
      have pin : ∀ b ∈ fp, ∀ o, t7.heap.get? b = some o → s'.heap.get? b = some o ∧ G' b = none := fun b hb o e => by
        obtain ⟨z1, z2, _⟩ := J'.pin (b, o) (List.mem_append_right _ (List.mem_append_right _ (mem_pinsAt hb e)))
        exact ⟨z1, z2⟩
      refine ⟨m', hm, i + 1, G', (J'.unpinned (pins := [])).weak (by rw [← w8, wipe_length]) (fun j v e => ?_), T.keep _ _ _ a7 fun b hb o e => (pin b hb o e).1, fun b hb => ?_, w'⟩
      · rw [← w8] at e
        exact (wipe_some e).1
      · obtain ⟨o, e, _⟩ := T.obj _ _ a7 b hb
        exact (pin b hb o e).2
  exact codeAny_compStart_dict loop (T.self X.A 0 _ _ _ a4 loop)
end
end Dt

set_option Elab.async false
set_option linter.all false
set_option maxRecDepth 100000
set_option maxHeartbeats 4000000
/-! Dt, part 26: {t: c for t in a tuple}, t in d; loops over enumerate that may raise. -/
namespace Dt
open PySem PySem.Spec PyProof.Rows L2
def tupI (ks : List Int) : D := .tup (ks.map .int)
theorem isD_ints {K : PySem.W.Frag} {P : Hp} {v : V} {ks : List Int} (h : IsD K P v (tupI ks)) : ∃ a, v = .ref a ∧ SqT K P a (ks.map V.int) := by
  unfold tupI at h
  cases h with
  | @tup a xs _ hs hl hi =>
    refine ⟨a, rfl, ?_⟩
    have e : xs = ks.map V.int := by
      refine List.ext_getElem? fun i => ?_
      rw [List.length_map] at hl
      by_cases hi2 : i < ks.length
      · have h1 : xs[i]? = some (xs[i]'(by omega)) := List.getElem?_eq_getElem _
        have h2 : (ks.map D.int)[i]? = some (.int (ks[i])) := by rw [List.getElem?_map, List.getElem?_eq_getElem hi2]; rfl
        have z := hi i _ _ h1 h2
        rw [h1, List.getElem?_map, List.getElem?_eq_getElem hi2]
        generalize xs[i]'(by omega) = y at z
        cases z
        rfl
      · rw [List.getElem?_eq_none (by omega), List.getElem?_eq_none (by rw [List.length_map]; omega)]
    rw [← e]
    exact hs
section
variable {X : Cx} {Γ : Sl} {M : Mem} {Φ : VP} {iter : Expr} {scope : Scope} {own : List (Str × Nat)} {pos px pk pv : Pos} {x : Str} {j : Nat} {bb : Bool} {jj : Nat}
/-- {x: c for x in a tuple of tuples of numbers} -/
theorem we_dx (hN : X.N.Nodup) (hu : X.A.units < cLine) (h : WE X Γ M iter fun d M1 => ∃ kss : List (List Int), d = .tup (kss.map tupI) ∧ kss.length < sizeLine ∧ Φ (.dic (kss.foldl addK [])) M1)
    (hj : j ∈ own.map (·.2)) (hjb : ∀ σ : L2.St, σ.length = X.N.length → j < σ.length) (ok : BlkOk X.N X.env.scope scope own) (hc : X.calm = true)
    (hg : ∀ (s : Shared) (H : Hp) (C : Addr) (cl : List (Str × Addr)) (fp : List Addr), PG (X.blk s H scope (compEnvC scope cl C X.env) fp) (.Name x px) (gName j))
    (hk : ∀ (s : Shared) (H : Hp) (C : Addr) (cl : List (Str × Addr)) (fp : List Addr), PE (X.blk s H scope (compEnvC scope cl C X.env) fp) (.Name x pk) (tVar j))
    (hs : ∀ x, foldedSetIterable iter X.env x = pure x) : WE X Γ M (.DictComp (.Name x pk) (.Constant (.bool bb) jj pv) [⟨.Name x px, iter, [], 0⟩] scope pos) Φ := fun P σ H s m => by
  intro pins sh I
  refine (pe_dx (fun D => tdO D []) (fun D y z G Nx => ∃ b ks xs, y = .ref b ∧ SqT X.K G b (ks.map V.int) ∧ G D = some (tdO D xs) ∧ (∀ x ∈ xs, SqT X.K G x.2.1 (x.1.map V.int)) ∧ xs.length < sizeLine ∧ ∀ v : Value, Nx (upd G D (tdO D (storedH xs ks b v))))
    (fun G h hb => td_new (beq_eq_false_iff_ne.mpr (Nat.ne_of_gt hb)) (Nat.zero_le _) (Heap.DictOfH.new h))
    (fun s0 H0 ce fp pins σ G s D y z u r Nx Q E I ry rz ⟨b, ks, xs, ey, hb, hD, hx, hl, nx⟩ q => by
      subst ey
      cases ry
      exact td_set (X := X.blk s0 H0 scope ce fp) hu I hD hx hb hl fun s' I' => q s' _ I' (nx r))
    hc hN (pi_tup pe_wp) ok hg hk (fun _ _ _ _ _ => pe_bl) hs).run pins sh σ H _ I ?_
  refine (h P σ H s m).mono fun v H1 ⟨d, M1, P1, ⟨kss, hd, hl, q⟩, e1, m1, i1⟩ => ?_
  subst hd
  cases i1 with
  | @tup a vs _ hq hlv hi =>
    rw [List.length_map] at hlv
    refine ⟨a, rfl, ⟨vs, Same.tupS m1.ex hq⟩, fun D hD => ?_⟩
    have hPD : P1 D = none := m1.ex.free hD
    have eU : ∀ o, Ex P1 (upd H1 D o) := fun o b u z => by
      rw [upd_ne (ne_of_none z hPD)]
      exact m1.ex _ _ z
    refine ⟨fun i n G => n = vs.length - i ∧ i ≤ vs.length ∧ ∃ xs, G = upd H1 D (tdO D xs) ∧ xs.map (·.1) = (kss.take i).foldl addK [] ∧ xs.length ≤ i ∧ ∀ x ∈ xs, SqT X.K P1 x.2.1 (x.1.map V.int), ⟨vs.length, rfl, Nat.zero_le _, [], rfl, rfl, Nat.le_refl _, fun x hx => by cases hx⟩, ?_⟩
    rintro i n G ⟨rfl, hin, xs, rfl, hk1, hk2, hk3⟩
    have hqq : SqT X.K (upd H1 D (tdO D xs)) a vs := Same.tupS (eU _) hq
    by_cases hlt : i < vs.length
    · have hx : vs[i]? = some (vs[i]) := List.getElem?_eq_getElem _
      refine .inr ⟨⟨vs, _, hqq, hx⟩, _, fun G' z => ⟨vs.length - (i + 1), by omega, rfl, hlt, z⟩, fun x0 G2 ⟨eG, hz⟩ => ?_⟩
      subst eG
      have ex : x0 = vs[i] := Option.some.inj ((hz vs hqq).symm.trans hx)
      subst ex
      have hik : i < kss.length := by omega
      have hkd : (kss.map tupI)[i]? = some (tupI kss[i]) := by rw [List.getElem?_map, List.getElem?_eq_getElem hik]; rfl
      obtain ⟨b, eb, hb⟩ := isD_ints (hi i _ _ hx hkd)
      have hσ : ((wipe σ (own.map (·.2))).set j (some (vs[i])))[j]? = some (some (vs[i])) := by
        rw [List.getElem?_set_self]
        rw [wipe_length]
        exact hjb σ I.len
      refine ⟨by rw [wipe_set hj, wipe_wipe], vs[i], hσ, b, kss[i], xs, eb, Same.tupS (eU _) hb, upd_same, fun x hx => Same.tupS (eU _) (hk3 x hx), by omega, fun v => ⟨storedH xs kss[i] b v, ?_, ?_, ?_, ?_⟩⟩
      · rw [upd_upd]
      · rw [keys_add, hk1, List.take_succ_eq_append_getElem hik, List.foldl_append]
        rfl
      · exact Nat.le_trans stored_len (Nat.succ_le_succ hk2)
      · exact stored_sq hb hk3
    · have ei : i = vs.length := by omega
      subst ei
      refine .inl ⟨⟨vs, hqq, Nat.le_refl _⟩, ?_⟩
      obtain ⟨m2, e2⟩ := m1.push (o := tdO D xs) hD
      rw [hlv, List.take_length] at hk1
      exact ⟨_, M1, _, q, e1.trans e2, m2, .dic upd_same hk1 fun x hx => Same.tupS e2 (hk3 x hx)⟩
end
/-! ### t in d -/
section
variable {X : Cx} {M : Mem} {Φ : VP} {ks : List Int} {kss : List (List Int)}
theorem od_inDic (hu : X.A.units + 1 < cLine) (q : Φ (.bl (decide (ks ∈ kss))) M) : OpD X (compareOp .In) (tupI ks) (.dic kss) M Φ := fun P H a b m ia ib pins σ s u v I ra rb => by
  obtain ⟨a', rfl, ha⟩ := isD_ints ia
  cases ib with
  | @dic d xs _ hd hk hi =>
    cases ra
    cases rb
    obtain ⟨h1, h2, hm⟩ := td_at I (m.ex _ _ hd) fun x hx => Same.tupS m.ex (hi x hx)
    refine wpAny_in_heap (knd := tupleKind (intKind X.prog X.w)) hu (key_int I (Same.tupS m.ex ha)) h1 hm ?_
    rw [find_key, hk]
    exact ⟨.bl _, H, I.tok _, rfl, .one q m .bl⟩
theorem od_niDic (hu : X.A.units + 1 < cLine) (q : Φ (.bl (!decide (ks ∈ kss))) M) : OpD X (compareOp .NotIn) (tupI ks) (.dic kss) M Φ := fun P H a b m ia ib pins σ s u v I ra rb => by
  obtain ⟨a', rfl, ha⟩ := isD_ints ia
  cases ib with
  | @dic d xs _ hd hk hi =>
    cases ra
    cases rb
    obtain ⟨h1, h2, hm⟩ := td_at I (m.ex _ _ hd) fun x hx => Same.tupS m.ex (hi x hx)
    refine wpAny_notIn_heap (knd := tupleKind (intKind X.prog X.w)) hu (key_int I (Same.tupS m.ex ha)) h1 hm ?_
    rw [find_key, hk]
    exact ⟨.bl _, H, I.tok _, rfl, .one q m .bl⟩
theorem mem_addK {l : List (List Int)} {k y : List Int} : y ∈ addK l k ↔ y ∈ l ∨ y = k := by
  unfold addK
  split
  · rename_i h
    exact ⟨.inl, fun z => z.elim id fun e => e ▸ h⟩
  · rw [List.mem_append, List.mem_singleton]
theorem mem_foldK : ∀ (l acc : List (List Int)) (y : List Int), y ∈ l.foldl addK acc ↔ y ∈ acc ∨ y ∈ l
  | [], acc, y => by simp
  | k :: l, acc, y => by
    rw [List.foldl_cons, mem_foldK l, mem_addK, List.mem_cons, or_assoc]
end
/-! ### loops over enumerate that may raise -/
section
variable {X : Cx} {Γ : Sl} {M : Mem} {a : Expr} {body sts : List Stmt} {Ψ : Po} {Ξ : XP} {pos p pos2 tpos : Pos} {elts : List Expr} {kk : Nat}
abbrev StepX (X : Cx) (elts : List Expr) (kk : Nat) (tpos : Pos) (body sts : List Stmt) (Ψ : Po) (Ξ : XP) (xs : List D) (Iv : Nat → Sl → Mem → Prop) : Prop := ∀ (i : Nat) (y : D) Γ' M', xs[i]? = some y → Iv i Γ' M' → GD X Γ' M' (.Tuple elts kk tpos) (.tup [.int (i : Int), y]) fun Γ2 M2 => WSx X Γ2 M2 body { Ψ with nx := Iv (i + 1), ct := Iv (i + 1), bk := fun Γ' M' => WSx X Γ' M' sts Ψ Ξ } Ξ
theorem forE_step {P P1 : Hp} {xs : List D} {vs : List V} {Iv : Nat → Sl → Mem → Prop} {i : Nat} {σ' : L2.St} {H' : Hp} {x1 : V} {T : Addr} (tk : Takes X (WXP X P Ξ)) (e1 : Ex P P1) (hd : IsDs X.K P1 vs xs) (hstep : StepX X elts kk tpos body sts Ψ Ξ xs Iv) (hF : FinS X.K P1 (Iv i) σ' H') (hx : vs[i]? = some x1) (hT : H' T = none) :
    wpG X (.Tuple elts kk tpos) (.ref T) σ' (upd H' T (.tup [.int (i : Int), x1])) fun σ2 H2 => wpSs X body { nx := FinS X.K P1 (Iv (i + 1)), rt := Fin X.K P Ψ.rt, bk := FinS X.K P fun Γ' M' => WSx X Γ' M' sts Ψ Ξ, ct := FinS X.K P1 (Iv (i + 1)) } σ2 H2 := by
  obtain ⟨Γ', M', P', hI', e', s', m'⟩ := hF
  obtain ⟨y, hy, iy⟩ := hd.getV hx
  obtain ⟨m2, e2⟩ := m'.push (o := .tup [.int (i : Int), x1]) hT
  refine (hstep i y Γ' M' hy hI' _ σ' _ (.ref T) (s'.mono e2) m2 (.tup (SqT.of upd_same) rfl (IsDs.cons .int (.cons (iy.mono (e'.trans e2)) .nil)).2)).mono fun σ2 H2 ⟨Γ2, M2, P2, q, e3, s2, mm2⟩ => (q P2 σ2 H2 s2 mm2 (tk_up (e1.trans (e'.trans (e2.trans e3))) tk)).mono ?_
  exact ⟨fun _ _ z => z.up (e'.trans (e2.trans e3)), fun _ _ z => z.up (e1.trans (e'.trans (e2.trans e3))), fun _ _ z => z.up (e1.trans (e'.trans (e2.trans e3))), fun _ _ z => z.up (e'.trans (e2.trans e3))⟩
theorem wx_forEU (hp : PassesOwn (model X.prog X.w) X.A X.env X.xe) (hm : X.mg "enumerate" = none)
    (h : WA X Γ M [a] fun ds M1 => ∃ (Iv : Nat → Sl → Mem → Prop) (xs : List D), ds = [.tup xs] ∧ Iv 0 Γ M1 ∧ StepX X elts kk tpos body sts Ψ Ξ xs Iv ∧ ∀ Γ' M', Iv xs.length Γ' M' → WSx X Γ' M' sts Ψ Ξ)
    (hc : X.calm = true := by rfl) (hg : Gl X "enumerate" := by rfl)
    (hs : starEach [a] X.env = [(false, eval a X.env)] := by rfl) (hf : ∀ x, foldedSetIterable (.Call (.Name "enumerate" p) [a] [] pos2) X.env x = pure x := by intro _; rfl) : WSx X Γ M (.For (.Tuple elts kk tpos) (.Call (.Name "enumerate" p) [a] [] pos2) body [] pos :: sts) Ψ Ξ := wx_cons fun P σ H s m tk =>
  wpS_of (ps_for hp hc (pi_enumU hg hm pa_wp hs) pg_wp pss_wp hf) ((h P σ H s m).mono fun vs H1 ⟨ds, M1, P1, ⟨Iv, xs, ed, hI, hstep, hdone⟩, e1, m1, i1⟩ => by
    subst ed
    obtain ⟨v, rfl, hv⟩ := i1.un1
    cases hv with
    | @tup l vs _ hq hl hi =>
      refine ⟨l, vs, rfl, Same.tupS m1.ex hq, fun i n σ' H' => n = xs.length - i ∧ i ≤ xs.length ∧ FinS X.K P1 (Iv i) σ' H', ⟨xs.length, rfl, Nat.zero_le _, Γ, M1, P1, hI, Same.refl P1, s.mono e1, m1⟩, ?_⟩
      rintro i n σ' H' ⟨rfl, hin, hF⟩
      have hqq : SqT X.K H' l vs := by
        obtain ⟨_, _, P', _, e', _, m'⟩ := hF
        exact Same.tupS (e'.trans m'.ex) hq
      by_cases hlt : i < xs.length
      · have hx : vs[i]? = some (vs[i]'(by rw [hl]; exact hlt)) := List.getElem?_eq_getElem _
        refine .inr ⟨⟨vs, _, hqq, hx⟩, FinS X.K P1 (Iv (i + 1)), fun σ2 H2 z => ⟨xs.length - (i + 1), by omega, rfl, hlt, z⟩, fun x0 H2 ⟨T, x1, e0, hT, eH, hz⟩ => ?_⟩
        subst e0 eH
        exact forE_step tk e1 ⟨hl, hi⟩ hstep hF (hz vs hqq) hT
      · have ei : i = xs.length := by omega
        subst ei
        obtain ⟨Γ', M', P', hI', e', s', m'⟩ := hF
        exact .inl ⟨⟨vs, hqq, by rw [hl]⟩, Γ', M', P', hdone Γ' M' hI', e1.trans e', s', m'⟩)
theorem wx_forEL (hp : PassesOwn (model X.prog X.w) X.A X.env X.xe) (hm : X.mg "enumerate" = none)
    (h : WA X Γ M [a] fun ds M1 => ∃ (Iv : Nat → Sl → Mem → Prop) (xs : List D), ds = [.lst xs] ∧ Iv 0 Γ M1 ∧ StepX X elts kk tpos body sts Ψ Ξ xs Iv ∧ ∀ Γ' M', Iv xs.length Γ' M' → WSx X Γ' M' sts Ψ Ξ)
    (hc : X.calm = true := by rfl) (hg : Gl X "enumerate" := by rfl)
    (hs : starEach [a] X.env = [(false, eval a X.env)] := by rfl) (hf : ∀ x, foldedSetIterable (.Call (.Name "enumerate" p) [a] [] pos2) X.env x = pure x := by intro _; rfl) : WSx X Γ M (.For (.Tuple elts kk tpos) (.Call (.Name "enumerate" p) [a] [] pos2) body [] pos :: sts) Ψ Ξ := wx_cons fun P σ H s m tk =>
  wpS_of (ps_for hp hc (pi_enum hg hm pa_wp hs) pg_wp pss_wp hf) ((h P σ H s m).mono fun vs H1 ⟨ds, M1, P1, ⟨Iv, xs, ed, hI, hstep, hdone⟩, e1, m1, i1⟩ => by
    subst ed
    obtain ⟨v, rfl, hv⟩ := i1.un1
    cases hv with
    | @lst l vs _ hq hl hi =>
      refine ⟨l, vs, rfl, Same.seq m1.ex hq, fun i n σ' H' => n = xs.length - i ∧ i ≤ xs.length ∧ FinS X.K P1 (Iv i) σ' H', ⟨xs.length, rfl, Nat.zero_le _, Γ, M1, P1, hI, Same.refl P1, s.mono e1, m1⟩, ?_⟩
      rintro i n σ' H' ⟨rfl, hin, hF⟩
      have hqq : SqL X.K H' l vs := by
        obtain ⟨_, _, P', _, e', _, m'⟩ := hF
        exact Same.seq (e'.trans m'.ex) hq
      by_cases hlt : i < xs.length
      · have hx : vs[i]? = some (vs[i]'(by rw [hl]; exact hlt)) := List.getElem?_eq_getElem _
        refine .inr ⟨⟨vs, _, hqq, hx⟩, FinS X.K P1 (Iv (i + 1)), fun σ2 H2 z => ⟨xs.length - (i + 1), by omega, rfl, hlt, z⟩, fun x0 H2 ⟨T, x1, e0, hT, eH, hz⟩ => ?_⟩
        subst e0 eH
        exact forE_step tk e1 ⟨hl, hi⟩ hstep hF (hz vs hqq) hT
      · have ei : i = xs.length := by omega
        subst ei
        obtain ⟨Γ', M', P', hI', e', s', m'⟩ := hF
        exact .inl ⟨⟨vs, hqq, by rw [hl]; exact Nat.le_refl _⟩, Γ', M', P', hdone Γ' M' hI', e1.trans e', s', m'⟩)
end
end Dt

set_option Elab.async false
set_option linter.all false
set_option maxRecDepth 100000
set_option maxHeartbeats 4000000
/-! Dt, part 27: isinstance with a tuple of classes; sorted(set(..)) as a function; list * number. -/
namespace Dt
open PySem PySem.Spec PyProof.Rows L2
/-! ### isinstance(x, (c, d)) -/
section
variable {X : Cx} {M : Mem} {Φ : VP}
theorem call_isiS : CallR X (.builtin "isinstance") (fun xs H Q => ∃ (x : V) (tp : Addr) (cs : List V) (t : Value) (us : List Value) (b : Bool), xs = [x, .ref tp] ∧ SqT X.K H tp cs ∧ Paired ClsV cs us ∧ TyX X.K H x t ∧ PySem.W.kitAny X.K t us = some b ∧ Q (.bl b) H) := by
  intro pins s σ H xs us Q I r h
  obtain ⟨x, tp, cs, t, ws, b, rfl, hT, k, ty, e, q⟩ := h
  obtain ⟨u1, u2, rfl, r1, r2⟩ := vals2 r
  cases (show u2 = Value.ref tp from r2)
  obtain ⟨Pp, Z, p, hx⟩ := kit_of I r1 ty
  obtain ⟨its, rv, ⟨o, h1, h2, n, h3⟩, _⟩ := I.tuple hT
  have e3 := ClsV.all k rv
  subst e3
  obtain ⟨oc, od, oda, osl⟩ := o
  dsimp only at h2 h3
  subst h2 h3
  exact PySem.W.kia_tup Z I.kIn p h1 e hx fun tk => ⟨.bl b, H, I.tok tk, rfl, q⟩
theorem un_ty2 {K : PySem.W.Frag} {P : Hp} {v : V} {a b : String} (h : IsD K P v (.tup [.ty a, .ty b])) : ∃ tp, v = .ref tp ∧ SqT K P tp [.ty a, .ty b] := by
  cases h with
  | @tup l xs _ hs hl hi =>
    obtain ⟨u1, u2, rfl, h1, h2⟩ := IsDs.un2 (K := K) (P := P) ⟨hl, hi⟩
    cases h1
    cases h2
    exact ⟨l, rfl, hs⟩
theorem kitAny2 {K : PySem.W.Frag} {t c d : Value} {ka kb : Bool} (h1 : PySem.W.kitOne K t c = some ka) (h2 : PySem.W.kitOne K t d = some kb) : PySem.W.kitAny K t [c, d] = some (ka || kb) := by
  refine kitAny_cons h1 (fun e => ?_) fun e => by rw [e]; rfl
  subst e
  refine kitAny_cons h2 (fun e => ?_) fun e => by rw [e]; rfl
  subst e
  rfl
theorem cd_isiTT {d : D} {t a b : String} {ka kb : Bool} (ht : tyD d = some t) (h1 : kitB t a = some ka) (h2 : kitB t b = some kb) (q : Φ (.bl (ka || kb)) M) : CaD X (.builtin "isinstance") [d, .tup [.ty a, .ty b]] M Φ := cd_of call_isiS fun P H vs m h => by
  obtain ⟨v, v2, rfl, hv, hv2⟩ := h.un2
  obtain ⟨tp, rfl, hT⟩ := un_ty2 hv2
  exact ⟨v, tp, _, _, [.type a, .type b], _, rfl, Same.tupS m.ex hT, .cons (.ty a) (.cons (.ty b) .nil), tyX_of m hv ht, kitAny2 (kit_ty h1) (kit_ty h2), .one q m .bl⟩
theorem cd_isiOT {d : D} {C : Addr} {fs : List (Str × D)} {a b : String} {ka kb : Bool} (ho : ObjD M d C fs) (hI : IsF X.K C) (h1 : PySem.W.kitOne X.K (.ref C) (.type a) = some ka) (h2 : PySem.W.kitOne X.K (.ref C) (.type b) = some kb) (q : Φ (.bl (ka || kb)) M) : CaD X (.builtin "isinstance") [d, .tup [.ty a, .ty b]] M Φ := cd_of call_isiS fun P H vs m h => by
  obtain ⟨v, v2, rfl, hv, hv2⟩ := h.un2
  obtain ⟨tp, rfl, hT⟩ := un_ty2 hv2
  exact ⟨v, tp, _, _, [.type a, .type b], _, rfl, Same.tupS m.ex hT, .cons (.ty a) (.cons (.ty b) .nil), hI.ty ho m hv, kitAny2 h1 h2, .one q m .bl⟩
end
/-! ### .. of a caught error -/
section
variable {Y : Cx} {t t2 : Expr} {σ : L2.St} {H : Hp} {b : Bool} {pos : Pos}
theorem call_isXT {X : Cx} {a C dd : Addr} {oe : Obj} {f : Str} {pn : List (Addr × Obj)} (T : XcC X.K C f) (hz : Zc (.ref C) (some dd) oe) (hf : ∃ vs, oe.data = .fields vs) : CallR (X.suite a ((a, oe) :: pn)) (.builtin "isinstance") (fun xs H Q => ∃ (tp : Addr) (cs : List V) (ws : List Value) (b : Bool) (fs : List (Str × V)), xs = [.ref a, .ref tp] ∧ H tp = some (.tup cs) ∧ Paired ClsV cs ws ∧ PySem.W.kitAny X.K (.ref C) ws = some b ∧ H dd = some (.xd fs) ∧ Q (.bl b) H) := by
  intro pins s σ H xs us Q I r h
  obtain ⟨tp, cs, ws, b, fs, rfl, hT, k, e, hd, q⟩ := h
  obtain ⟨u1, u2, rfl, r1, r2⟩ := vals2 r
  cases (show u1 = Value.ref a from r1)
  cases (show u2 = Value.ref tp from r2)
  obtain ⟨its, rv, ⟨o, h1, h2, n, h3⟩, _⟩ := I.tuple (SqT.of (K := X.K) hT)
  have e3 := ClsV.all k rv
  subst e3
  obtain ⟨oc, od, oda, osl⟩ := o
  dsimp only at h2 h3
  subst h2 h3
  obtain ⟨hget, _⟩ := I.pin (a, oe) (List.mem_append.mpr (.inl List.mem_cons_self))
  obtain ⟨vs, hv⟩ := hf
  obtain ⟨mA, hns, hr⟩ : ObjOk X.prog X.w H s.heap dd (.xd fs) := I.hok dd _ hd
  obtain ⟨od, ho, hl⟩ := lookIn_ns hns
  have J : PySem.W.InstAt s.heap a oe C (some od) := ⟨hget, hz.1, by unfold PySem.W.notCls; rw [hv] <;> rfl, by rw [hz.2]; exact ho⟩
  have hcl : (PySem.W.clsIn X.K C).isSome = true := by
    obtain ⟨cd, hc, _⟩ := PySem.W.any_some T.xf.hdC
    rw [hc]
    rfl
  exact PySem.W.kia_tup (PySem.W.kitx_exc hcl T.xf.ga T.xf.gg T.xf.exC T.own T.get T.tak T.mro) I.kIn J h1 e (fun z => nomatch z) fun tk => ⟨.bl b, H, I.kept (t' := tk) fun _ _ z => z, rfl, q⟩
/-- isinstance(e, (y, z)) -/
theorem ts_isiT {X : Cx} {a C B B' dd : Addr} {oe : Obj} {f n y z : Str} {fs : List (Str × V)} {i : Nat} {pn : List (Addr × Obj)} {p p1 p2 p3 p4 : Pos} {kk : Nat} {b1 b2 : Bool} (T : XcC X.K C f) (hz : Zc (.ref C) (some dd) oe) (hf : ∃ vs, oe.data = .fields vs) (hd : H dd = some (.xd fs)) (hσ : σ[i]? = some (some (.ref a)))
    (hk : PySem.W.kitOne X.K (.ref C) (.ref B) = some b1) (hk2 : PySem.W.kitOne X.K (.ref C) (.ref B') = some b2) (hm : X.mg "isinstance" = none) (hB : X.mg y = some (.ref B)) (hB2 : X.mg z = some (.ref B')) (hi : X.N[i]? = some n) (hv : Vis X.env.scope n) (hg : Gl X "isinstance") (hgB : Gl X y) (hgB2 : Gl X z)
    (hdn : (n == ("__debug__" : Str)) = false) (hcn : (n == ("__classdict__" : Str)) = false) (hdB : (y == ("__debug__" : Str)) = false) (hdB2 : (z == ("__debug__" : Str)) = false)
    (h1 : starEach [.Name n p1, .Tuple [.Name y p2, .Name z p3] kk p4] X.env = (false, eval (.Name n p1) X.env) :: starEach [.Tuple [.Name y p2, .Name z p3] kk p4] X.env)
    (h2 : starEach [.Tuple [.Name y p2, .Name z p3] kk p4] X.env = (false, eval (.Tuple [.Name y p2, .Name z p3] kk p4) X.env) :: starEach [] X.env) (h3 : (backTo pos (starEach [.Tuple [.Name y p2, .Name z p3] kk p4] X.env)).any (·.1) = false)
    (h4 : starEach [.Name y p2, .Name z p3] X.env = (false, eval (.Name y p2) X.env) :: starEach [.Name z p3] X.env) (h5 : starEach [.Name z p3] X.env = (false, eval (.Name z p3) X.env) :: starEach [] X.env) :
    TsE (X.suite a ((a, oe) :: pn)) (.Call (.Name "isinstance" p) [.Name n p1, .Tuple [.Name y p2, .Name z p3] kk p4] [] pos) σ H (b1 || b2) := fun Q q => by
  have hT : wpT (X.suite a ((a, oe) :: pn)) (.Call (.Name "isinstance" p) [.Name n p1, .Tuple [.Name y p2, .Name z p3] kk p4] [] pos) σ H fun v H1 => v = .bl (b1 || b2) ∧ Ex H H1 := by
    refine wpT_of (pe_callB (call_isXT T hz hf) hg hm boot_isinstance (pa_cons (pe_var hi hv hdn hcn) (pa_cons (pe_tup (pa_cons (pe_glob (v := .ref B) hgB hB rfl hdB) (pa_cons (pe_glob (v := .ref B') hgB2 hB2 rfl hdB2) pa_nil h5) h4)) pa_nil h2) h1) (by decide) (by decide) h1 h3) ?_
    refine ⟨_, hσ, (show 2 ≤ sizeLine by decide), fun tp hp => ?_⟩
    have eU : Ex H (upd H tp (.tup [.ref B, .ref B'])) := fun c o w => by
      rw [upd_ne (ne_of_none w hp)]
      exact w
    exact ⟨tp, _, [.ref B, .ref B'], _, fs, rfl, upd_same, .cons (.own B) (.cons (.own B') .nil), kitAny2 hk hk2, eU _ _ hd, rfl, eU⟩
  refine wpB_of (pt_val pe_wp (fun _ => rfl)) (hT.mono fun v H1 ⟨e1, e2⟩ => ?_)
  subst e1
  exact ⟨_, rfl, q _ e2⟩
end
/-! ### sorted(set(..)) as a function -/
def insU (k : Int) : List Int → List Int
  | [] => [k]
  | x :: r => if k < x then k :: x :: r else if k = x then x :: r else x :: insU k r
def sortU (ns : List Int) : List Int := ns.foldr insU []
theorem mem_insU {k y : Int} : ∀ l : List Int, y ∈ insU k l ↔ y = k ∨ y ∈ l
  | [] => by simp [insU]
  | x :: r => by
    unfold insU
    split
    · simp
    · split
      · rename_i h
        subst h
        simp
      · rw [List.mem_cons, mem_insU r, List.mem_cons]
        exact or_left_comm
theorem mem_sortU {y : Int} : ∀ ns : List Int, y ∈ sortU ns ↔ y ∈ ns
  | [] => by simp [sortU]
  | k :: r => by
    have ih := mem_sortU (y := y) r
    show y ∈ insU k (sortU r) ↔ _
    rw [mem_insU, ih, List.mem_cons]
theorem pw_insU {k : Int} : ∀ l : List Int, l.Pairwise (· < ·) → (insU k l).Pairwise (· < ·)
  | [], _ => by simp [insU]
  | x :: r, h => by
    obtain ⟨h1, h2⟩ := List.pairwise_cons.mp h
    unfold insU
    split
    · refine List.pairwise_cons.mpr ⟨fun y hy => ?_, h⟩
      rcases List.mem_cons.mp hy with e | e
      · omega
      · have := h1 y e
        omega
    · split
      · exact h
      · refine List.pairwise_cons.mpr ⟨fun y hy => ?_, pw_insU r h2⟩
        rcases (mem_insU r).mp hy with e | e
        · omega
        · exact h1 y e
theorem pw_sortU : ∀ ns : List Int, (sortU ns).Pairwise (· < ·)
  | [] => by simp [sortU]
  | k :: r => pw_insU _ (pw_sortU r)
theorem pw_eq : ∀ (as bs : List Int), as.Pairwise (· < ·) → bs.Pairwise (· < ·) → (∀ k, k ∈ as ↔ k ∈ bs) → as = bs
  | [], [], _, _, _ => rfl
  | [], b :: bs, _, _, h => by
    have z := (h b).mpr List.mem_cons_self
    cases z
  | a :: as, [], _, _, h => by
    have z := (h a).mp List.mem_cons_self
    cases z
  | a :: as, b :: bs, ha, hb, h => by
    obtain ⟨a1, a2⟩ := List.pairwise_cons.mp ha
    obtain ⟨b1, b2⟩ := List.pairwise_cons.mp hb
    have e : a = b := by
      have h1 := (h a).mp List.mem_cons_self
      have h2 := (h b).mpr List.mem_cons_self
      rcases List.mem_cons.mp h1 with e | e
      · exact e
      · rcases List.mem_cons.mp h2 with e' | e'
        · exact e'.symm
        · have := a1 b e'
          have := b1 a e
          omega
    subst e
    rw [pw_eq as bs a2 b2 fun k => ?_]
    have hk := h k
    rw [List.mem_cons, List.mem_cons] at hk
    constructor
    · intro z
      have := a1 k z
      rcases hk.mp (.inr z) with e | e
      · omega
      · exact e
    · intro z
      have := b1 k z
      rcases hk.mpr (.inr z) with e | e
      · omega
      · exact e
theorem sortU_len : ∀ ns : List Int, (sortU ns).length ≤ ns.length
  | [] => Nat.le_refl _
  | k :: r => by
    have ih := sortU_len r
    have h2 : ∀ l : List Int, (insU k l).length ≤ l.length + 1 := by
      intro l
      induction l with
      | nil => exact Nat.le_refl _
      | cons x l ihl =>
        unfold insU
        split
        · exact Nat.le_refl _
        · split
          · exact Nat.le_succ _
          · exact Nat.succ_le_succ ihl
    exact Nat.le_trans (h2 (sortU r)) (Nat.succ_le_succ ih)
section
variable {X : Cx} {Γ : Sl} {M : Mem} {Φ : VP}
theorem wcSetF {pos p : Pos} (hm : X.mg "set" = none) (hms : X.mg "sorted" = none) {e2 : Expr} {pos2 p2 : Pos}
    (h : WA X Γ M [e2] fun ds M1 => ∃ ns : List Int, ds = [.lst (ns.map D.int)] ∧ ns.length < 64 ∧ Φ (.lst ((sortU ns).map D.int)) M1)
    (hc : X.calm = true := by rfl) (hg : Gl X "set" := by rfl) (hg2 : Gl X "sorted" := by rfl) (he : starEach [e2] X.env = (false, eval e2 X.env) :: starEach [] X.env := by rfl) (hpl : (backTo pos2 (starEach [] X.env)).any (·.1) = false := by rfl)
    (he1 : starEach [.Call (.Name "set" p2) [e2] [] pos2] X.env = (false, eval (.Call (.Name "set" p2) [e2] [] pos2) X.env) :: starEach [] X.env := by rfl) (hpl1 : (backTo pos (starEach [] X.env)).any (·.1) = false := by rfl) :
    WE X Γ M (.Call (.Name "sorted" p) [.Call (.Name "set" p2) [e2] [] pos2] [] pos) Φ := by
  refine wcSet (x := "set") (e := e2) hm hms ?_ hc hg hg2 he hpl he1 hpl1
  refine fun P σ H s m => (h P σ H s m).mono fun vs H1 ⟨ds, M1, P1, ⟨ns, ed, hl, q⟩, z⟩ => ⟨ds, M1, P1, ⟨ns, ed, hl, fun ms hp hmem => ?_⟩, z⟩
  rw [pw_eq ms (sortU ns) hp (pw_sortU ns) fun k => by rw [hmem, mem_sortU]]
  exact q
theorem isDs_rep {K : PySem.W.Frag} {P : Hp} {xs : List V} {ds : List D} (h : IsDs K P xs ds) : ∀ n : Nat, IsDs K P (List.replicate n xs).flatten (List.replicate n ds).flatten
  | 0 => .nil
  | n + 1 => by
    rw [List.replicate_succ, List.replicate_succ, List.flatten_cons, List.flatten_cons]
    exact h.append (isDs_rep h n)
/-- [x] * n -/
theorem od_repO {k : Nat} {l : Addr} {ds : List D} {n : Int} (hk : M[k]? = some (l, .lst ds)) (h0 : 0 ≤ n) (h1 : n < 2 ^ 63) (hl : ds.length * n.toNat ≤ sizeLine) (q : ∀ p, Φ (.adr p) ((p, .lst (List.replicate n.toNat ds).flatten) :: M)) : OpD X (binaryOp .Mult) (.adr l) (.int n) M Φ := fun P H a b m ia ib => by
  cases ia
  cases ib
  obtain ⟨_, xs, hx, hd⟩ := m.get hk
  refine opT_of op_rep ⟨l, n, xs, rfl, rfl, hx, by omega, h1, by rw [hd.1]; exact hl, fun p hp => ?_⟩
  exact ⟨_, _, P, q p, Same.refl P, m.own hp ⟨_, upd_same, isDs_rep hd _⟩, .adr⟩
end
end Dt

set_option Elab.async false
set_option linter.all false
set_option maxRecDepth 100000
set_option maxHeartbeats 4000000
/-! Dt, part 28: comprehensions over pairs of numbers; cells in order. -/
namespace Dt
open PySem PySem.Spec PyProof.Rows L2
def cellD (c : Int × Int) : D := .tup [.int c.1, .int c.2]
def ordF (cs : List (Int × Int)) : List (Int × Int) := (sortU (cs.map (·.1))).flatMap fun x => (sortU ((cs.filter fun c => decide (c.1 = x)).map (·.2))).map fun y => (x, y)
theorem wx_wk {X : Cx} {Γ Γ' : Sl} {M M' : Mem} {sts : List Stmt} {Ψ : Po} {Ξ : XP} (w : Wk Γ' Γ) (hm : M'.Sublist M) (h : WSx X Γ' M' sts Ψ Ξ) : WSx X Γ M sts Ψ Ξ := h.weak w.1 w.2 hm
theorem take_1 {α : Type} {L : List α} {i : Nat} {z : α} (h : L[i]? = some z) : L.take (i + 1) = L.take i ++ [z] := by
  obtain ⟨hi, e⟩ := List.getElem?_eq_some_iff.mp h
  rw [List.take_succ_eq_append_getElem hi, e]
section
variable {X : Cx} {Γ : Sl} {M : Mem} {Φ : VP} {elt iter tgt : Expr} {ifs : List Expr} {scope : Scope} {own : List (Str × Nat)} {pos : Pos} {j j2 : Nat}
/-- what is told of a comprehension over pairs -/
def PairC (X : Cx) (Γ : Sl) (scope : Scope) (own : List (Str × Nat)) (j j2 : Nat) (ifs : List Expr) (elt : Expr) (cs : List (Int × Int)) (p : Int × Int → Bool) (g : Int × Int → D) (M1 : Mem) : Prop :=
  cs.length < sizeLine ∧ (∀ c, c ∈ cs → ∀ l out s H C cl fp, WTs (blkOf X scope s H C cl fp) (((wipeD Γ (own.map (·.2))).set j (some (.int c.1))).set j2 (some (.int c.2))) ((l, .lst out) :: M1) ifs fun k M2 => k = p c ∧ M2 = (l, .lst out) :: M1) ∧
  (∀ c, c ∈ cs → p c = true → ∀ l out s H C cl fp, WE (blkOf X scope s H C cl fp) (((wipeD Γ (own.map (·.2))).set j (some (.int c.1))).set j2 (some (.int c.2))) ((l, .lst out) :: M1) elt fun z M2 => z = g c ∧ M2 = (l, .lst out) :: M1)
theorem pair_turn {cs : List (Int × Int)} {p : Int × Int → Bool} {g : Int × Int → D} {M1 : Mem} (h : PairC X Γ scope own j j2 ifs elt cs p g M1) {i : Nat} {c : Int × Int} (hc : cs[i]? = some c) (l : Addr) :
    Turn1 X scope ifs elt (fun out M' => out = ((cs.take (i + 1)).filter p).map g ∧ M' = M1) (((wipeD Γ (own.map (·.2))).set j (some (.int c.1))).set j2 (some (.int c.2))) l (((cs.take i).filter p).map g) M1 := by
  obtain ⟨hl, ht, he⟩ := h
  have hmem : c ∈ cs := List.mem_of_getElem? hc
  have hi := (List.getElem?_eq_some_iff.mp hc).1
  intro s H C cl fp P σ H1 s1 m1 pins sh I
  refine thn (ht c hmem l _ s H C cl fp P σ H1 s1 m1 pins sh I) fun b sh2 ⟨H2, I2, M2, P2, ⟨hb, hM⟩, e2, m2⟩ => ⟨H2, I2, M2, P2, ⟨fun hk s H C cl fp => ?_, fun hk => ?_⟩, e2, m2⟩
  · subst hM
    refine (he c hmem (by rw [← hb]; exact hk) l _ s H C cl fp).mono fun z M3 ⟨hz, hM3⟩ => ⟨_, hM3, ?_, ?_, rfl⟩
    · rw [List.length_map]
      have h1 := List.length_filter_le p (cs.take i)
      rw [List.length_take] at h1
      omega
    · rw [take_1 hc, List.filter_append, List.map_append, List.filter_cons, if_pos (by rw [← hb]; exact hk), hz]
      rfl
  · refine ⟨M1, hM, ?_, rfl⟩
    rw [take_1 hc, List.filter_append, List.filter_cons, if_neg (by rw [← hb, hk]; decide)]
    simp
theorem lcPairL (hN : X.N.Nodup) (h : WE X Γ M iter fun d M1 => ∃ (cs : List (Int × Int)) (p : Int × Int → Bool) (g : Int × Int → D), d = .lst (cs.map cellD) ∧ PairC X Γ scope own j j2 ifs elt cs p g M1 ∧ Φ (.lst ((cs.filter p).map g)) M1)
    (ok : BlkOk X.N X.env.scope scope own) (hg : ∀ (s : Shared) (H : Hp) (C : Addr) (cl : List (Str × Addr)) (fp : List Addr), PG (X.blk s H scope (compEnvC scope cl C X.env) fp) tgt (gTup X.K 2 (gCons (gName j) (gCons (gName j2) gNil))))
    (hj : j ∈ own.map (·.2) := by decide) (hj2 : j2 ∈ own.map (·.2) := by decide) (hc : X.calm = true := by rfl) (hs : ∀ x, foldedSetIterable iter X.env x = pure x := by intro _; rfl) : WE X Γ M (.ListComp elt [⟨tgt, iter, ifs, 0⟩] scope pos) Φ := by
  refine we_frz (we_lcL2 hN (h.mono fun d M1 ⟨cs, p, g, hd, hp, q⟩ => ⟨fun i out M' => out = ((cs.take i).filter p).map g ∧ M' = M1, cs.map cellD, hd, ⟨rfl, rfl⟩, ?_, ?_⟩) hj hj2 ok hc hg hs)
  · rintro i y l out M' hy ⟨rfl, rfl⟩
    obtain ⟨c, hc', rfl⟩ := getMap hy
    exact ⟨.int c.1, .int c.2, rfl, pair_turn hp hc' l⟩
  · rintro l out M' ⟨rfl, rfl⟩
    refine ⟨l, _, _, rfl, rfl, ?_⟩
    rw [List.length_map, List.take_length]
    exact q
theorem lcPairT (hN : X.N.Nodup) (h : WE X Γ M iter fun d M1 => ∃ (cs : List (Int × Int)) (p : Int × Int → Bool) (g : Int × Int → D), d = .tup (cs.map cellD) ∧ PairC X Γ scope own j j2 ifs elt cs p g M1 ∧ Φ (.lst ((cs.filter p).map g)) M1)
    (ok : BlkOk X.N X.env.scope scope own) (hg : ∀ (s : Shared) (H : Hp) (C : Addr) (cl : List (Str × Addr)) (fp : List Addr), PG (X.blk s H scope (compEnvC scope cl C X.env) fp) tgt (gTup X.K 2 (gCons (gName j) (gCons (gName j2) gNil))))
    (hj : j ∈ own.map (·.2) := by decide) (hj2 : j2 ∈ own.map (·.2) := by decide) (hc : X.calm = true := by rfl) (hs : ∀ x, foldedSetIterable iter X.env x = pure x := by intro _; rfl) : WE X Γ M (.ListComp elt [⟨tgt, iter, ifs, 0⟩] scope pos) Φ := by
  refine we_frz (we_lcT2 hN (h.mono fun d M1 ⟨cs, p, g, hd, hp, q⟩ => ⟨fun i out M' => out = ((cs.take i).filter p).map g ∧ M' = M1, cs.map cellD, hd, ⟨rfl, rfl⟩, ?_, ?_⟩) hj hj2 ok hc hg hs)
  · rintro i y l out M' hy ⟨rfl, rfl⟩
    obtain ⟨c, hc', rfl⟩ := getMap hy
    exact ⟨.int c.1, .int c.2, rfl, pair_turn hp hc' l⟩
  · rintro l out M' ⟨rfl, rfl⟩
    refine ⟨l, _, _, rfl, rfl, ?_⟩
    rw [List.length_map, List.take_length]
    exact q
/-- [elt for y in a list of numbers], a list of one's own -/
theorem we_lcI {x : Str} {px : Pos} (hN : X.N.Nodup) (h : WE X Γ M iter fun d M1 => ∃ (ns : List Int) (g : Int → D), d = .lst (ns.map D.int) ∧ ns.length < sizeLine ∧ (∀ n, n ∈ ns → ∀ l out s H C cl fp, WE (blkOf X scope s H C cl fp) ((wipeD Γ (own.map (·.2))).set j (some (.int n))) ((l, .lst out) :: M1) elt fun z M2 => z = g n ∧ M2 = (l, .lst out) :: M1) ∧ ∀ l, Φ (.adr l) ((l, .lst (ns.map g)) :: M1))
    (ok : BlkOk X.N X.env.scope scope own) (hg : ∀ (s : Shared) (H : Hp) (C : Addr) (cl : List (Str × Addr)) (fp : List Addr), PG (X.blk s H scope (compEnvC scope cl C X.env) fp) (.Name x px) (gName j)) (hj : j ∈ own.map (·.2) := by decide) (hc : X.calm = true := by rfl)
    (hs : ∀ x, foldedSetIterable iter X.env x = pure x := by intro _; rfl) : WE X Γ M (.ListComp elt [⟨.Name x px, iter, [], 0⟩] scope pos) Φ := by
  refine we_lcL hN (h.mono fun d M1 ⟨ns, g, hd, hl, hstep, q⟩ => ⟨fun i out M' => out = (ns.take i).map g ∧ M' = M1, ns.map D.int, hd, ⟨rfl, rfl⟩, ?_, ?_⟩) hj ok hc hg hs
  · rintro i y l out M' hy ⟨rfl, rfl⟩ s H C cl fp
    obtain ⟨n, hn, rfl⟩ := getMap hy
    have hi := (List.getElem?_eq_some_iff.mp hn).1
    refine wts_nil ⟨fun _ s H C cl fp => (hstep n (List.mem_of_getElem? hn) l _ s H C cl fp).mono fun z M2 ⟨hz, hM⟩ => ⟨_, hM, ?_, ?_, rfl⟩, fun z => nomatch z⟩
    · rw [List.length_map, List.length_take]
      omega
    · rw [take_1 hn, List.map_append, hz]
      rfl
  · rintro l out M' ⟨rfl, rfl⟩
    rw [List.length_map, List.take_length]
    exact q l
end
theorem sum_filter : ∀ (cs : List (Int × Int)) (xs : List Int), xs.Pairwise (· < ·) → ((xs.map fun x => (cs.filter fun c => decide (c.1 = x)).length).sum) ≤ cs.length
  | cs, [], _ => Nat.zero_le _
  | cs, x :: xs, h => by
    obtain ⟨h1, h2⟩ := List.pairwise_cons.mp h
    have ih := sum_filter (cs.filter fun c => !decide (c.1 = x)) xs h2
    have e : (xs.map fun y => (cs.filter fun c => decide (c.1 = y)).length) = xs.map fun y => ((cs.filter fun c => !decide (c.1 = x)).filter fun c => decide (c.1 = y)).length := by
      refine List.map_congr_left fun y hy => ?_
      rw [List.filter_filter]
      refine congrArg List.length (List.filter_congr fun c _ => ?_)
      have hxy := h1 y hy
      by_cases hc : c.1 = y
      · have : ¬ c.1 = x := by omega
        rw [decide_eq_true hc, decide_eq_false this]
        rfl
      · rw [decide_eq_false hc]
        rfl
    rw [List.map_cons, List.sum_cons, e]
    have part : (cs.filter fun c => decide (c.1 = x)).length + (cs.filter fun c => !decide (c.1 = x)).length = cs.length := by
      induction cs with
      | nil => rfl
      | cons c cs ihc =>
        rw [List.filter_cons, List.filter_cons]
        by_cases hc : c.1 = x
        · rw [decide_eq_true hc]
          simp only [if_true, Bool.not_true, Bool.false_eq_true, if_false, List.length_cons]
          have := ihc (by
            have z := sum_filter (cs.filter fun c => !decide (c.1 = x)) xs h2
            exact z) (by
            refine List.map_congr_left fun y hy => ?_
            rw [List.filter_filter]
            refine congrArg List.length (List.filter_congr fun c _ => ?_)
            have hxy := h1 y hy
            by_cases hc : c.1 = y
            · have : ¬ c.1 = x := by omega
              rw [decide_eq_true hc, decide_eq_false this]
              rfl
            · rw [decide_eq_false hc]
              rfl)
          omega
        · rw [decide_eq_false hc]
          simp only [Bool.false_eq_true, if_false, Bool.not_false, if_true, List.length_cons]
          have := ihc (by
            have z := sum_filter (cs.filter fun c => !decide (c.1 = x)) xs h2
            exact z) (by
            refine List.map_congr_left fun y hy => ?_
            rw [List.filter_filter]
            refine congrArg List.length (List.filter_congr fun c _ => ?_)
            have hxy := h1 y hy
            by_cases hc : c.1 = y
            · have : ¬ c.1 = x := by omega
              rw [decide_eq_true hc, decide_eq_false this]
              rfl
            · rw [decide_eq_false hc]
              rfl)
          omega
    omega
end Dt

set_option Elab.async false
set_option linter.all false
set_option maxRecDepth 100000
set_option maxHeartbeats 4000000
/-! Dt, part 29: what may raise, used where it doesn't; makers without arguments; slices. -/
namespace Dt
open PySem PySem.Spec PyProof.Rows L2
section
variable {X : Cx} {Γ : Sl} {M : Mem} {Φ : VP} {Ξ : XP} {e : Expr} {pos p : Pos} {k : Nat} {x : Str} {S : DSx}
theorem we_x (h : WEx X Γ M e Φ fun _ _ _ => False) : WE X Γ M e Φ := fun P σ H s m => h P σ H s m fun u s' ⟨_, _, _, _, _, _, _, _, _, _, _, _, _, _, _, _, _, _, _, _, _, _, _, _, _, _, _, z, _⟩ => z.elim
theorem wxm0 {C : Addr} {dfs : List D} (F : HasMkX X.prog X.w X.K X.mg X.base k C x dfs S) (hr : Room (k + 1) X.A)
    (h : ∀ l, S (.adr l :: dfs) ((l, .ins C []) :: M) (fun r M2 => r = .non ∧ ∃ fs M3, M2 = (l, .ins C fs) :: M3 ∧ Φ (.obj C fs) M3) (fun C' as M2 => ∃ o M3, M2 = (l, o) :: M3 ∧ Ξ C' as M3))
    (hg : Gl X x := by rfl) (hdb : (x == ("__debug__" : Str)) = false := by decide) : WEx X Γ M (.Call (.Name x p) [] [] pos) Φ Ξ := fun P σ H s m tk => by
  obtain ⟨f, fd, ps, us, vs0, F1, mk, hm, hb, hv0, hd0⟩ := F
  refine wpT_of (pe_make0 mk F1 hr hg hm hb hv0 (pass_x tk) hdb) ?_
  intro l dx hl hdx hne
  obtain ⟨m2, e2⟩ := m.push (o := .own l) hdx
  have hl2 : upd H dx (.own l) l = none := by
    rw [upd_ne (fun z => hne z.symm)]
    exact hl
  have m3 : MOk X.K ((l, .ins C []) :: M) (upd P dx (.own l)) (upd (upd H dx (.own l)) l (.ins C dx [])) := m2.own hl2 ⟨dx, [], upd_same, .nil⟩
  refine ⟨_, _, _, _, _, .cons .adr (hd0 _), m3, h l, fun v H' z => ?_, fun c' d' H' z => ?_⟩
  · obtain ⟨d4, M4, P4, ⟨z1, fs, M5, z2, z3⟩, z4, z5, z6⟩ := z
    subst z1 z2
    cases z6
    obtain ⟨P6, e6, m6, i6⟩ := frz_ins z5
    exact ⟨rfl, _, M5, P6, z3, (e2.trans z4).trans e6, m6, i6⟩
  · obtain ⟨C', dd, fs, as, M4, P4, z1, z2, z3, z4, ⟨o, M5, z5, z6⟩, z7, z8⟩ := z
    subst z5
    exact ⟨C', dd, fs, as, M5, P4, z1, z2, z3, z4, z6, e2.trans z7, z8.tail⟩
end
theorem cut_to {α : Type} {xs : List α} {n : Nat} (h : n ≤ xs.length) : cutL xs none (some (n : Int)) = xs.take n := by
  unfold cutL
  rw [HT.sIx_none, HT.sIx_nat, List.drop_zero, Nat.min_eq_left h, Nat.sub_zero]
theorem cut_from {α : Type} {xs : List α} {n : Nat} (h : n ≤ xs.length) : cutL xs (some (n : Int)) none = xs.drop n := by
  unfold cutL
  rw [HT.sIx_none, HT.sIx_nat, Nat.min_eq_left h, List.take_of_length_le (by rw [List.length_drop]; exact Nat.le_refl _)]
end Dt

set_option Elab.async false
set_option linter.all false
set_option maxRecDepth 100000
set_option maxHeartbeats 4000000
/-! Dt, part 30: the head tells own errors' __init__ (a def with the cell __class__), raising defs and makers. -/
namespace Dt
open PySem PySem.Spec PyProof.Rows L2
abbrev FnX : Type := Option (Str × Str × Arguments × FuncBody × Scope × Addr × List Str × Addr)
def seeX (K : Fg) (a : Addr) : FnX := (K.lookup a).bind fun o => match o.data with
  | .func g => some (g.name, g.qualname, g.params, g.body, g.scope, g.globals, g.closure.map (·.1), g.builtins)
  | _ => none
def Df.toldX (d : Df) : FnX := some (d.nm, d.qu, d.pa, .stmts d.bo, d.sc, mainGlobals, ["__class__"], builtinsNs)
abbrev AlQ : Type := (Bool × List He.FnW) × List FnX
def lookQ (fa : List He.Fa) (fn fx : List Df) (ex : Fg → Bool) (K : Fg) : AlQ := (lookP fa fn ex K, fx.map fun d => seeX K (d.loc K))
def wantQ (fn fx : List Df) : AlQ := (wantP fn, fx.map Df.toldX)
structure ToldQ (fa : List He.Fa) (fn fx : List Df) (ex : Fg → Bool) (K : Fg) : Prop where
  told : Told fa fn ex K
  defx : ∀ d, d ∈ fx → seeX K (d.loc K) = d.toldX
theorem toldQ_of {fa : List He.Fa} {fn fx : List Df} {ex : Fg → Bool} {K : Fg} (h : lookQ fa fn fx ex K = wantQ fn fx) : ToldQ fa fn fx ex K := by
  have h1 : lookP fa fn ex K = wantP fn := congrArg Prod.fst h
  have h2 : fx.map (fun d => seeX K (d.loc K)) = fx.map Df.toldX := congrArg Prod.snd h
  exact ⟨told_of h1, fun d hd => List.map_inj_left.mp h2 d hd⟩
def hookQ (n : Nat) (fa : List He.Fa) (fn fx : List Df) (ex : Fg → Bool) : PySem.W.Hook where
  α := AlQ
  obs := fun s => lookQ fa fn fx ex (He.frG s.heap.get? (cStatics :: He.asD s.heap.get? n))
  val := fun _ => wantQ fn fx
  says := fun _ h => ∃ K : Fg, K.In h ∧ ToldQ fa fn fx ex K
  of := fun _ _ e => ⟨_, He.frG_in, toldQ_of e⟩
  keeps := fun _ _ _ ⟨K, hK, c⟩ k => ⟨K, PySem.W.Frag.In.keeps hK k, c⟩
def obQ (n : Nat) (fa : List He.Fa) (fn fx : List Df) (ex : Fg → Bool) (s : PySem.W.SharedT) : AlQ := lookQ fa fn fx ex (He.frG (HandSHeadRun.getT s) (cStatics :: He.asD (HandSHeadRun.getT s) n))
theorem obQ_eq {n : Nat} {fa : List He.Fa} {fn fx : List Df} {ex : Fg → Bool} (s : PySem.W.SharedT) : obQ n fa fn fx ex s = (hookQ n fa fn fx ex).obs s.abs := by
  have e : HandSHeadRun.getT s = s.abs.heap.get? := funext (HandSHeadRun.getT_eq s)
  unfold obQ
  rw [e]
  rfl
/-! ### an own error's class -/
def oexB (K : Fg) (C : Addr) : Bool := (match K.lookup C with
  | some ⟨.type c, _, .cls cd, sl⟩ => (match cd.mro, sl.toList with
    | .ref C' :: bm, [_, _, _, _, some (.builtin n), _] => decide (c = "type") && (decide (C' = C) && (decide (n = "ValueError.__new__") && (cd.hasDict && (!cd.hasDel && PySem.HandSPX.refsVE bm))))
    | _, _ => false)
  | _ => false) && (He.eqO (PySem.W.findIn K (.ref C) "__setattr__") (some (some (.builtin "object.__setattr__"))) && (decide (PySem.W.subIn K (.ref C) (.type "BaseException") = some true) && (decide (PySem.W.typeIn K (.ref C) = some (.type "type")) && PySem.W.keepIn K (.ref C))))
theorem oexB_ok {K : Fg} {C : Addr} (h : oexB K C = true) : OexC K C := by
  unfold oexB at h
  obtain ⟨h1, h⟩ := Bool.and_eq_true_iff.mp h
  obtain ⟨h2, h⟩ := Bool.and_eq_true_iff.mp h
  obtain ⟨h3, h⟩ := Bool.and_eq_true_iff.mp h
  obtain ⟨h4, h5⟩ := Bool.and_eq_true_iff.mp h
  refine ⟨?_, He.eqO_ok h2, of_decide_eq_true h3, of_decide_eq_true h4, h5⟩
  split at h1
  · rename_i c dd cd sl hl
    split at h1
    · rename_i C' bm k0 k1 k2 k3 n k5 hm hs
      obtain ⟨e1, h1⟩ := Bool.and_eq_true_iff.mp h1
      obtain ⟨e2, h1⟩ := Bool.and_eq_true_iff.mp h1
      obtain ⟨e3, h1⟩ := Bool.and_eq_true_iff.mp h1
      obtain ⟨e4, h1⟩ := Bool.and_eq_true_iff.mp h1
      obtain ⟨e5, e6⟩ := Bool.and_eq_true_iff.mp h1
      have e1 := of_decide_eq_true e1
      have e2 := of_decide_eq_true e2
      have e3 := of_decide_eq_true e3
      have e7 : cd.hasDel = false := by simpa using e5
      obtain ⟨c1, c2, c3, c4, c5, c6, c7, c8, c9, c10, c11⟩ := cd
      dsimp only at hm e4 e7
      subst hm e1 e2 e3 e4 e7
      have es : sl = #[k0, k1, k2, k3, some (.builtin "ValueError.__new__"), k5] := by
        have z := congrArg List.toArray hs
        rw [Array.toArray_toList] at z
        exact z
      subst es
      exact ⟨c1, c5, c4, c2, bm, c7, c8, c9, c10, dd, k0, k1, k2, k3, k5, hl, e6⟩
    · cases h1
  · cases h1
/-- all that is asked of the class C and its __init__ -/
def supB (fl : Str) (K : Fg) (C : Addr) (x qu : Str) : Bool := oexB K C && (He.eqO (PySem.W.ks_superIn K C C "__init__") (some (some (.builtin "ValueError.__init__"))) && (decide (PySem.W.mroIn K C (.ref C) = some true) && (decide (PySem.W.subIn K (.ref C) (.type "ValueError") = some true) &&
  (He.eqO (PySem.W.nsIn K cStatics "thirdparty.any") (some none) && (He.eqO (PySem.W.findIn K (.ref C) x) (some none) && (He.eqO (PySem.W.nsIn K mainGlobals "super") (some none) && (He.eqO (PySem.W.findIn K (.ref C) "__init__") (some (some (.ref (He.ma K C "__init__")))) &&
  (decide (PySem.W.typeIn K (.ref (He.ma K C "__init__")) = some (.type "function")) && (match K.lookup (He.ma K C "__init__") with
  | some ⟨_, _, .func g, _⟩ => (match g.closure, g.code with
    | [(_, cc)], .ref cda => PySem.W.codeIn K (.ref cda) qu && (decide (g.defaults = .none) && ((match K.lookup cc with
      | some ⟨_, _, .cell (some (.ref C')), _⟩ => decide (C' = C)
      | _ => false) && (match K.lookup cda with
      | some ⟨_, _, .fields vs, _⟩ => (match (vs[2]? : Option Value) with
        | some (.str file _) => fl == file
        | _ => false)
      | _ => false)))
    | _, _ => false)
  | _ => false)))))))))
theorem hasEx {P : Program} {w : World} {K : Fg} {h base : Heap} {mg : Str → Option Value} {k : Nat} {n x : Str} {d : Df} {p0 p1 p2 p3 p4 p5 p6 p7 p8 p9 : Pos} {pl : Sem Bool} {ar : Arg} (X : K.In h) (G : h.Ns mainGlobals mg) (hl : d.loc K = He.ma K (He.ga K n) "__init__") (h1 : seeX K (d.loc K) = d.toldX) (h2 : supB P.main.file K (He.ga K n) x d.qu = true)
    (g2 : (He.Fa.glo n).ok K = true) (ht : (P.main.scope.names.lookup ("super" : Str)).isSome = false)
    (hbo : d.bo = [.Expr (.Call (.Attribute (.Call (.Name "super" p0) [] [] p1) "__init__" p2) [.Name x p3] [] p4) p5, .Assign [.Attribute (.Name "self" p6) x p7] (.Name x p8) p9]) (Sc : SupS d.sc x) (hx : x ≠ "self") (hx2 : x ≠ "__class__") (hdb : (x == ("__debug__" : Str)) = false) (hdc : (x == ("__classdict__" : Str)) = false)
    (hp : (d.pa.posonlyargs ++ d.pa.args).head? = some ar) (har : ar.arg = "self")
    (hev : ∀ env : Env, eval (.Call (.Attribute (.Call (.Name "super" p0) [] [] p1) "__init__" p2) [.Name x p3] [] p4) env = (do
      let ov ← attributeBase (.Call (.Name "super" p0) [] [] p1) "__init__" env (eval (.Call (.Name "super" p0) [] [] p1) env)
      standAt p2.atName
      let (f, first) ← holding [ov] (getMethod ov "__init__" pl)
      callWith p4 f first (backTo p4 (starEach [.Name x p3] env)) []))
    (hsw : ∀ env : Env, swapsWith (.Call (.Attribute (.Call (.Name "super" p0) [] [] p1) "__init__" p2) [.Name x p3] [] p4) none p5.line env = pure false) (hsw2 : ∀ env : Env, swapsWith (.Name x p8) (some (.Attribute (.Name "self" p6) x p7)) p9.line env = pure false)
    (hbind : ∀ (kV doc pm : Value) (an : Option Addr) (cdv ct : Value) (cc : Addr) (us : List Value), us.length = 2 → bindArgs (PySem.W.ksFn d.nm d.qu d.pa d.bo d.sc .none kV doc pm an cdv ct cc) ⟨us, []⟩ = pure ((["self", x] : List Str).zip us)) :
    HasEx P w K mg base (k + 1) (He.ga K n) n x := by
  unfold supB at h2
  replace h2 := Bool.and_eq_true_iff.mp h2
  obtain ⟨a1, h2⟩ := h2
  replace h2 := Bool.and_eq_true_iff.mp h2
  obtain ⟨a2, h2⟩ := h2
  replace h2 := Bool.and_eq_true_iff.mp h2
  obtain ⟨a3, h2⟩ := h2
  replace h2 := Bool.and_eq_true_iff.mp h2
  obtain ⟨a4, h2⟩ := h2
  replace h2 := Bool.and_eq_true_iff.mp h2
  obtain ⟨a5, h2⟩ := h2
  replace h2 := Bool.and_eq_true_iff.mp h2
  obtain ⟨a6, h2⟩ := h2
  replace h2 := Bool.and_eq_true_iff.mp h2
  obtain ⟨a7, h2⟩ := h2
  replace h2 := Bool.and_eq_true_iff.mp h2
  obtain ⟨a8, h2⟩ := h2
  replace h2 := Bool.and_eq_true_iff.mp h2
  obtain ⟨a9, h2⟩ := h2
  rw [hl] at h1
  unfold seeX at h1
  split at h2
  · rename_i oc od g osl hk
    rw [hk, Option.bind_some] at h1
    dsimp only at h1
    split at h2
    · rename_i y cc cda hc hcd
      obtain ⟨b1, h2⟩ := Bool.and_eq_true_iff.mp h2
      obtain ⟨b0, h2⟩ := Bool.and_eq_true_iff.mp h2
      obtain ⟨b2, b3⟩ := Bool.and_eq_true_iff.mp h2
      have b9 := of_decide_eq_true b0
      obtain ⟨g1, g2', g3, g4, g5, g6, g7, g8, g9, g10, g11, g12, g13, g14, g15⟩ := g
      dsimp only at hc hcd b9 h1
      subst hc hcd b9
      simp only [Df.toldX, Option.some.injEq, Prod.mk.injEq, List.map_cons, List.map_nil, List.cons.injEq, and_true] at h1
      obtain ⟨r1, r2, r3, r4, r5, r6, r7, r8⟩ := h1
      subst r1 r2 r3 r4 r5 r6 r7 r8
      have cellOk : ∃ cl cld csl, K.lookup cc = some ⟨cl, cld, .cell (some (.ref (He.ga K n))), csl⟩ := by
        split at b2
        · rename_i e1 e2 C' e4 e5
          have z := of_decide_eq_true b2
          subst z
          exact ⟨_, _, _, e5⟩
        · cases b2
      have codeOk : ∃ ccl cdd vs ccs file tf, K.lookup cda = some ⟨ccl, cdd, .fields vs, ccs⟩ ∧ vs[2]? = some (.str file tf) ∧ ((P.main.file : Str) == file) = true := by
        split at b3
        · rename_i e1 e2 vs e4 e5
          split at b3
          · rename_i file tf e6
            exact ⟨_, _, vs, _, file, tf, e5, e6, b3⟩
          · cases b3
        · cases b3
      have S : SupC P K (He.ga K n) cc cda x := ⟨oexB_ok a1, He.eqO_ok a2, of_decide_eq_true a3, of_decide_eq_true a4, He.eqO_ok a5, He.eqO_ok a6, He.eqO_ok a7, cellOk, codeOk, ht⟩
      refine ⟨He.ma K (He.ga K n) "__init__", PySem.W.ksFn d.nm d.qu d.pa d.bo d.sc .none g9 g10 g11 g12 (.ref cda) g14 cc, ["self", x], oexB_ok a1, He.eqO_ok a8, of_decide_eq_true a9, ?_, .all fun us hl => hbind g9 g10 g11 g12 (.ref cda) g14 cc us hl, He.glo_ok X G g2⟩
      rw [hbo] at hk ⊢
      exact fn_sup (k := k) hk b1 S Sc hx hx2 hdb hdc hp har hev hsw hsw2
    · cases h2
  · cases h2
/-! ### a caught error's class -/
def xcB (K : Fg) (C : Addr) (f : Str) : Bool := xfB K C && (He.eqO (PySem.W.findIn K (.ref C) f) (some none) && (He.eqO (PySem.W.findIn K (.ref C) "__class__") (some (some (.builtin "object.__class__"))) && (He.eqO (PySem.W.specialIn K (.builtin "object.__class__") "__get__") (some (some (.builtin "getset_descriptor.__get__"))) &&
  (decide (PySem.W.takesIn K (.builtin "object.__class__") = some true) && decide (PySem.W.mroIn K C (.type "object") = some true)))))
theorem xcB_ok {K : Fg} {C : Addr} {f : Str} (h : xcB K C f = true) : XcC K C f := by
  unfold xcB at h
  obtain ⟨a1, h⟩ := Bool.and_eq_true_iff.mp h
  obtain ⟨a2, h⟩ := Bool.and_eq_true_iff.mp h
  obtain ⟨a3, h⟩ := Bool.and_eq_true_iff.mp h
  obtain ⟨a4, h⟩ := Bool.and_eq_true_iff.mp h
  obtain ⟨a5, a6⟩ := Bool.and_eq_true_iff.mp h
  exact ⟨xfB_ok a1, He.eqO_ok a2, He.eqO_ok a3, He.eqO_ok a4, of_decide_eq_true a5, of_decide_eq_true a6⟩
/-- an empty tuple of the written part -/
def nilB (K : Fg) (a : Addr) : Bool := match K.lookup a with
  | some ⟨.type c, _, .seq its _, _⟩ => decide (c = "tuple") && its.toList.isEmpty
  | _ => false
theorem nilB_ok {K : Fg} {a : Addr} (h : nilB K a = true) (P : Hp) : IsD K P (.ref a) (.tup []) := by
  unfold nilB at h
  split at h
  · rename_i c dd its nn sl hl
    obtain ⟨a1, a2⟩ := Bool.and_eq_true_iff.mp h
    have e := of_decide_eq_true a1
    subst e
    have e2 : its.toList = [] := List.isEmpty_iff.mp a2
    refine .tup (xs := []) (.inr ⟨_, its, nn, hl, rfl, rfl, ?_, ?_⟩) rfl (fun i x d z => by simp at z)
    · rw [← Array.length_toList, e2]
      exact Nat.zero_le _
    · rw [e2]
      exact .nil
  · cases h
section
variable {P : Program} {w : World} {K : Fg} {h base : Heap} {mg : Str → Option Value} {k : Nat} {C : Str} {fd : FuncData} {ps : List Str} {S : DSx} {dvs : List V} {dd : List D}
theorem hasMkX (X : K.In h) (G : h.Ns mainGlobals mg) (b : ∃ ds, Vals dvs ds ∧ Binds K fd ps ds) (hd : ∀ P1 : Hp, IsDs K P1 dvs dd) (g : (He.Fa.mkr C).ok K = true) (g2 : (He.Fa.glo C).ok K = true) (F1 : FnOk P w K mg base (L2.CX P w) k (locM C "__init__" K) fd ps (spOfX K S)) : HasMkX P w K mg base k (He.ga K C) C dd S := by
  obtain ⟨ds, hv, hb⟩ := b
  exact ⟨_, fd, ps, ds, dvs, F1, He.mkr_ok g, He.glo_ok X G g2, hb, hv, hd⟩
end
end Dt

set_option Elab.async false
set_option linter.all false
set_option maxRecDepth 100000
set_option maxHeartbeats 4000000
/-! Dt, part 31: set comprehensions by any store; sets of texts, their number. -/
namespace Dt
open PySem PySem.Spec PyProof.Rows L2
section
variable {X : Cx}
/-- {elt for tg in iter}: o0 the new set, St what set.add does -/
def tSx (o0 : Addr → HO) (St : Addr → V → Hp → (Hp → Prop) → Prop) (wi : TI) (g : TG) (te : TE) (vs : List Nat) : TE := fun σ H Q => wi σ H fun J H1 => ∀ D, H1 D = none → ∃ W : Nat → Nat → Hp → Prop, (∃ m, W 0 m (upd H1 D (o0 D))) ∧
  ∀ i m H, W i m H → (J.stop i H ∧ Q (.ref D) H) ∨ (J.go i H ∧ ∃ Nx : Hp → Prop, (∀ H', Nx H' → ∃ m', m' < m ∧ W (i + 1) m' H') ∧ ∀ x H', J.yld i H x H' → g x (wipe σ vs) H' fun σ2 H2 => wipe σ2 vs = wipe σ vs ∧ te σ2 H2 fun y H4 => St D y H4 Nx)
theorem pe_sx {elt tg iter : Expr} {scope : Scope} {own : List (Str × Nat)} {pos : Pos} {wi : TI} {g : TG} {te : TE} (o0 : Addr → HO) (St : Addr → V → Hp → (Hp → Prop) → Prop)
    (hO : ∀ (G : Hp) (h : Heap), ObjOk X.prog X.w G (h.push (nSet X.w)) h.objs.size (o0 h.objs.size))
    (hS : ∀ (s0 : Shared) (H0 : Hp) (ce : Env) (fp : List Addr) (pins : List (Addr × Obj)) (σ : L2.St) (G : Hp) (s : Shared) (D : Addr) (y : V) (u : Value) (Nx : Hp → Prop) (Q : Value → Shared → Prop) (E : Value → Shared → Prop), Inv (X.blk s0 H0 scope ce fp) pins σ G s → RelV y u → St D y G Nx →
      (∀ s' G', Inv (X.blk s0 H0 scope ce fp) pins σ G' s' → Nx G' → Q .none s') → wpAny (model X.prog X.w) X.A (call (.builtin "set.add") [.ref D, u]) Q E s)
    (hc : X.calm = true) (hN : X.N.Nodup) (hi : PI X tg iter wi) (ok : BlkOk X.N X.env.scope scope own)
    (hg : ∀ (s : Shared) (H : Hp) (C : Addr) (cl : List (Str × Addr)) (fp : List Addr), PG (X.blk s H scope (compEnvC scope cl C X.env) fp) tg g)
    (hv : ∀ (s : Shared) (H : Hp) (C : Addr) (cl : List (Str × Addr)) (fp : List Addr), PE (X.blk s H scope (compEnvC scope cl C X.env) fp) elt te) (hs : ∀ x, foldedSetIterable iter X.env x = pure x := by intro _; rfl) :
    PE X (.SetComp elt [⟨tg, iter, [], 0⟩] scope pos) (tSx o0 St wi g te (own.map (·.2))) := by
  refine ⟨fun pins s σ H Q I h => ?_⟩
  rw [PpSet.eval_SetComp]
  have clo := closure_ok (env := X.env) (scope := scope) fun y hy e => (ok.free y hy e).elim (fun k => I.ok.has _ (.inl k)) fun k => I.ok.has _ (.inr k)
  refine wpAny_comprehension_free (use := none) rfl hs clo ok.kind (fun y hy e => by rw [ok.uniq y hy, e]) (thn (hi.run pins s σ H _ I h) fun xv t1 hx => thn hx fun itv t2 ⟨it, fp, tn, J, G2, eit, J2, T, a2, f2, q⟩ => ?_)
  subst eit
  refine PpSet.newSet_ok (newEnv_comp ?_)
  obtain ⟨D, eD⟩ : ∃ D, D = t2.heap.objs.size := ⟨_, rfl⟩
  rw [← eD]
  obtain ⟨W, ⟨m0, w0⟩, turn⟩ := q D (J2.hok.fresh (Nat.le_of_eq eD.symm))
  obtain ⟨t3, e3⟩ : ∃ t3 : Shared, t3 = { t2 with heap := t2.heap.push (nSet X.w) } := ⟨_, rfl⟩
  have p3 : t3.heap = t2.heap.push (nSet X.w) := by rw [e3]
  have J3 : Inv X pins σ (upd G2 D (o0 D)) t3 := by
    rw [e3]
    refine J2.laid (t' := t2.toks) (fun b o e => Heap.get?_push_of_some _ e) (Nat.le_of_eq eD.symm) ?_
    have z := hO (upd G2 D (o0 D)) t2.heap
    rw [← eD] at z
    exact z
  have f3 : ∀ b ∈ fp, FpOk X pins (upd G2 D (o0 D)) b ∧ b < t3.heap.objs.size := fun b hb => by
    obtain ⟨o, e, _⟩ := T.obj _ _ a2 b hb
    have lt := Heap.lt_size e
    have ne : b ≠ D := by
      rw [eD]
      exact Nat.ne_of_lt lt
    exact ⟨⟨by rw [upd_ne ne]; exact (f2 b hb).1, (f2 b hb).2⟩, by rw [p3, Heap.size_push]; exact Nat.lt_succ_of_lt lt⟩
  have a3 : tn 0 t3.heap := T.keep _ _ _ a2 fun b _ o e => by
    rw [p3]
    exact Heap.get?_push_of_some _ e
  have J4 := block_start J3 ok hN f3
  have g4 := hg t3 (upd G2 D (o0 D)) t3.heap.objs.size (cellsFrom (t3.heap.objs.size + 1) scope.names (cloFrom X.env.cells scope.names [])) fp
  have v4 := hv t3 (upd G2 D (o0 D)) t3.heap.objs.size (cellsFrom (t3.heap.objs.size + 1) scope.names (cloFrom X.env.cells scope.names [])) fp
  rw [show ({ t2 with heap := t2.heap.push (nSet X.w) } : Shared) = t3 from e3.symm]
  show codeAny _ _ (.compStart (.SetComp elt [⟨tg, iter, [], 0⟩] scope pos) 0 (.ref it) (.ref D) (compEnvC scope (cellsFrom (t3.heap.objs.size + 1) scope.names (cloFrom X.env.cells scope.names [])) t3.heap.objs.size X.env)) (compPost (model X.prog X.w) X.A X.xe none (EP X pins σ Q) (.ref D) t3.heap.objs.size) { t3 with heap := pushCells (t3.heap.push { cls := .type "dict", data := .dict #[] }) scope.names }
  have n3 : ∀ b ∈ fp, (upd G2 D (o0 D)) b = none := fun b hb => (f3 b hb).1.1
  obtain ⟨ce, ece⟩ : ∃ ce, ce = compEnvC scope (cellsFrom (t3.heap.objs.size + 1) scope.names (cloFrom X.env.cells scope.names [])) t3.heap.objs.size X.env := ⟨_, rfl⟩
  have cL : ce.locals = t3.heap.objs.size := by rw [ece]; rfl
  rw [← ece] at J4 g4 v4 ⊢
  obtain ⟨G3, eG3⟩ : ∃ G3, G3 = upd G2 D (o0 D) := ⟨_, rfl⟩
  rw [← eG3] at J3 J4 g4 v4 w0 n3 f3
  obtain ⟨t4, et4⟩ : ∃ t4 : Shared, t4 = { t3 with heap := pushCells (t3.heap.push { cls := .type "dict", data := .dict #[] }) scope.names } := ⟨_, rfl⟩
  rw [← et4] at J4 ⊢
  have a4 : tn 0 t4.heap := T.keep _ _ _ a3 fun b _ o e => by
    rw [et4]
    exact pushCells_keeps _ _ _ _ (Heap.get?_push_of_some _ e)
  have fpk : ∀ {σ' : L2.St} {G : Hp} {s' : Shared}, Inv (X.blk t3 G3 scope ce fp) [] σ' G s' → (∀ b ∈ fp, G b = none) → ∀ b ∈ fp, FpOk (X.blk t3 G3 scope ce fp) [] G b := fun {σ' G s'} Z hn b hb =>
    ⟨hn b hb, (Z.ok.exf b hb).1, Z.ok.exfs b hb, .inl hb, fun x c e => (Z.ok.exf b hb).2 x c e, fun p hp => absurd (show p ∈ ([] : List (Addr × Obj)) ++ [] from hp) (by simp)⟩
  have loop : codeAny (model X.prog X.w) X.A (.compLoop (.SetComp elt [⟨tg, iter, [], 0⟩] scope pos) 0 (.ref it) (.ref D) ce) (compPost (model X.prog X.w) X.A X.xe none (EP X pins σ Q) (.ref D) t3.heap.objs.size) t4 := by
    refine PpSet.compLoopS_any (fun n s' => ∃ i G, Inv (X.blk t3 G3 scope ce fp) [] (wipe σ (own.map (·.2))) G s' ∧ tn i s'.heap ∧ (∀ b ∈ fp, G b = none) ∧ W i n G) ?_ m0 ⟨0, G3, J4, a4, n3, w0⟩
    rintro n t5 ⟨i, G5, J5, a5, n5, w5⟩
    rcases turn i n G5 w5 with ⟨stop, qq⟩ | ⟨go, Nx, hNx, step⟩
    · refine thnF (T.done (X.blk t3 G3 scope ce fp) rfl rfl rfl hc i [] t5 _ G5 (fun _ _ => False) J5 (fpk J5 n5) a5 stop) fun r t6 ⟨hr, J6⟩ => ?_
      subst hr
      have J7 : Inv X pins σ G5 t6 := J3.call' (ch := fp) J6.os J6.base J6.hok J6.bare fun b hb => by
        obtain ⟨⟨_, z1, _, z3, z4, z5⟩, _⟩ := f3 b hb
        exact ⟨z3, z1, z4, z5⟩
      have nC : G5 t3.heap.objs.size = none := by
        rw [← cL]
        exact J6.free
      obtain ⟨m, hn, _⟩ := J6.loc
      have hn : t6.heap.Ns t3.heap.objs.size m := by
        rw [← cL]
        exact hn
      obtain ⟨z0, z1, _, z3, z4, z5⟩ := J3.fpOk (Nat.le_refl _) nC
      exact ⟨m, hn, fun h'' sb => ⟨.ref D, G5, J7.turned (t' := t6.toks) (fun b o hb e => (sb.2 b hb).trans e) z0 z1 z3 z4 z5, rfl, qq⟩⟩
    · refine thnF (T.item (X.blk t3 G3 scope ce fp) rfl rfl rfl hc i [] t5 _ G5 (fun _ _ => False) J5 (fpk J5 n5) a5 go) fun r t6 ⟨u, hr, h6⟩ => ?_
      subst hr
      refine thnF h6 fun _ t7 ⟨x, G7, J7, r7, y7, a7, n7⟩ => ?_
      have J7p := J7.pinned (fpk J7 n7) (T.obj _ _ a7)
      refine thnF (g4.run _ t7 _ G7 x u _ J7p r7 (step x G7 y7)) fun _ t8 ⟨σ8, G8, J8, w8, q8⟩ => ?_
      refine thnF ((pts_nil (X := X.blk t3 G3 scope ce fp)).run _ t8 σ8 G8 (fun b G => b = true ∧ G = G8) J8 ⟨rfl, rfl⟩) fun b t9 ⟨G9, J9, eb, eg⟩ => ?_
      subst eb eg
      refine thnF (v4.run _ t9 σ8 _ _ J9 q8) fun z t10 ⟨yk, G10, J10, r10, q10⟩ => ?_
      refine hS t3 G3 ce fp _ σ8 G10 t10 D yk _ Nx _ _ J10 r10 q10 fun s' G' J' nx => ?_
      obtain ⟨m', hm, w'⟩ := hNx G' nx
      have pin : ∀ b ∈ fp, ∀ o, t7.heap.get? b = some o → s'.heap.get? b = some o ∧ G' b = none := fun b hb o e => by
        obtain ⟨z1, z2, _⟩ := J'.pin (b, o) (List.mem_append_right _ (List.mem_append_right _ (mem_pinsAt hb e)))
        exact ⟨z1, z2⟩
      refine ⟨m', hm, i + 1, G', (J'.unpinned (pins := [])).weak (by rw [← w8, wipe_length]) (fun j v e => ?_), T.keep _ _ _ a7 fun b hb o e => (pin b hb o e).1, fun b hb => ?_, w'⟩
      · rw [← w8] at e
        exact (wipe_some e).1
      · obtain ⟨o, e, _⟩ := T.obj _ _ a7 b hb
        exact (pin b hb o e).2
  exact PpSet.codeAny_compStart_set loop (T.self X.A 0 _ _ _ a4 loop)
end
/-! ### sets of texts -/
def addS (l : List Str) (k : Str) : List Str := if k ∈ l then l else l ++ [k]
def txO (P : Program) (w : World) (D : Addr) (l : List Str) : HO := .ext fun h => h.SetOf (strKind P w) D (fun k => decide (k ∈ l)) l.length
theorem tx_new {P : Program} {w : World} {H : Hp} {h : Heap} {D : Addr} {l : List Str} (m : h.SetOf (strKind P w) D (fun k => decide (k ∈ l)) l.length) : ObjOk P w H h D (txO P w D l) := by
  refine ⟨m, ?_, ?_⟩
  · obtain ⟨o, es, ep, t, ho, _⟩ := m
    exact ⟨o, ho⟩
  · rintro h1 h2 ⟨o, es, ep, t, ho, r⟩ k
    exact ⟨o, es, ep, t, k o ho, r⟩
theorem addS_len {l : List Str} {k : Str} : (addS l k).length ≤ l.length + 1 := by
  unfold addS
  split
  · exact Nat.le_succ _
  · rw [List.length_append]
    exact Nat.le_refl _
theorem addS_is {l : List Str} {k : Str} : (fun k' => decide (k' ∈ l) || decide (k' = k)) = fun k' => decide (k' ∈ addS l k) := by
  funext k'
  unfold addS
  split
  · rename_i h
    by_cases e : k' = k
    · subst e
      simp [h]
    · simp [e]
  · simp
theorem addS_num {l : List Str} {k : Str} : (if (decide (k ∈ l)) = true then l.length else l.length + 1) = (addS l k).length := by
  unfold addS
  by_cases h : k ∈ l
  · rw [if_pos (decide_eq_true h), if_pos h]
  · rw [if_neg (by rw [decide_eq_false h]; decide), if_neg h, List.length_append]
    rfl
section
variable {X : Cx} {pins : List (Addr × Obj)} {σ : L2.St} {H : Hp} {s : Shared} {D : Addr} {l : List Str} {k : Str}
theorem tx_add {u : Value} {Q : Value → Shared → Prop} {E : Value → Shared → Prop} (I : Inv X pins σ H s) (h : H D = some (txO X.prog X.w D l)) (ru : RelV (.str k) u) (hl : l.length + 1 < scanBound) (q : ∀ s', Inv X pins σ (upd H D (txO X.prog X.w D (addS l k))) s' → Q .none s') :
    wpAny (model X.prog X.w) X.A (call (.builtin "set.add") [.ref D, u]) Q E s := by
  obtain ⟨tk, rfl⟩ : ∃ tk, u = Value.str k tk := ru
  obtain ⟨m, _, _⟩ : ObjOk X.prog X.w H s.heap D (txO X.prog X.w D l) := I.hok D _ h
  refine call_set_add (knd := strKind X.prog X.w) (k := k) (by simp [PySem.strKind, PySem.Value.isStrOf]) rfl m hl fun h' sb m' => q _ ?_
  rw [addS_is, addS_num] at m'
  have e2 : ∃ o, h'.get? D = some o := by
    obtain ⟨o, _, _, _, g, _⟩ := m'
    exact ⟨o, g⟩
  exact I.write (x := D) (e := D) (by rw [h]; exact True.intro) (.inl rfl) (fun c o hc z => (sb.2 c hc).trans z) e2 (tx_new m')
theorem call_lenTx : CallR X (.builtin "len") (fun xs H Q => ∃ (D : Addr) (l : List Str), xs = [.ref D] ∧ H D = some (txO X.prog X.w D l) ∧ Q (.int l.length) H) := by
  intro pins s σ H xs us Q I r h
  obtain ⟨D, l, rfl, hD, q⟩ := h
  obtain rfl := Vals.ref1 r
  obtain ⟨⟨o, es, ep, t, ho, hex, hd, _, _, hb, hf, hn⟩, _, _⟩ : ObjOk X.prog X.w H s.heap D (txO X.prog X.w D l) := I.hok D _ hD
  refine call_len_set ho hex hd hf (by have e : scanBound = 4096 := rfl; omega) ?_
  rw [hn]
  exact ⟨.int l.length, H, (I.tok _).tok _, ⟨_, rfl⟩, q⟩
end
section
variable {X : Cx} {Γ : Sl} {M : Mem} {Φ : VP} {iter : Expr} {scope : Scope} {own : List (Str × Nat)} {pos px pe pa p pos2 : Pos} {x f : Str} {j : Nat}
def tAt (K : PySem.W.Frag) (j : Nat) (f : Str) : TE := fun σ H Q => ∃ (a C dx : Addr) (fs : List (Str × V)) (v : V), σ[j]? = some (some (.ref a)) ∧ H a = some (.ins C dx fs) ∧ Cls K C ∧ NoAttr K C f ∧ fs.lookup f = some v ∧ Q v H
theorem pe_at {Y : Cx} (hN : Y.N[j]? = some x) (hv : Vis Y.env.scope x) (hd : (x == ("__debug__" : Str)) = false := by decide) (hcd : (x == ("__classdict__" : Str)) = false := by decide) (hb : attributeBase (.Name x pe) f Y.env (eval (.Name x pe) Y.env) = eval (.Name x pe) Y.env := by rfl) : PE Y (.Attribute (.Name x pe) f pa) (tAt Y.K j f) := ⟨fun pins s σ H Q I ⟨a, C, dx, fs, v, h1, h2, c, n, h3, q⟩ =>
  attr_of hb (thn ((pe_var hN hv hd hcd).run pins s σ H (fun y G => y = .ref a ∧ G = H) I ⟨_, h1, rfl, rfl⟩) fun u s1 ⟨y, G, I1, r1, e1, e2⟩ => by
    subst e1 e2
    cases r1
    exact getattr_ok I1 h2 c n h3 fun u' s2 I2 ru => ⟨v, G, I2, ru, q⟩)⟩
/-- len({x.f for x in ..}), texts -/
theorem we_lenSetT (hN : X.N.Nodup) (hms : X.mg "len" = none) (h : WE X Γ M iter fun d M1 => ∃ (xs : List D) (nm : D → Str), d = .tup xs ∧ xs.length < 4000 ∧ (∀ y, y ∈ xs → ∃ C fs, y = .obj C fs ∧ Cls X.K C ∧ NoAttr X.K C f ∧ fs.lookup f = some (.str (nm y))) ∧ Φ (.int (((xs.map nm).foldl addS []).length : Int)) M1)
    (hj : j ∈ own.map (·.2)) (hjb : ∀ σ : L2.St, σ.length = X.N.length → j < σ.length) (ok : BlkOk X.N X.env.scope scope own) (hc : X.calm = true)
    (hg : ∀ (s : Shared) (H : Hp) (C : Addr) (cl : List (Str × Addr)) (fp : List Addr), PG (X.blk s H scope (compEnvC scope cl C X.env) fp) (.Name x px) (gName j))
    (hk : ∀ (s : Shared) (H : Hp) (C : Addr) (cl : List (Str × Addr)) (fp : List Addr), PE (X.blk s H scope (compEnvC scope cl C X.env) fp) (.Attribute (.Name x pe) f pa) (tAt X.K j f))
    (hs : ∀ x, foldedSetIterable iter X.env x = pure x) (hgl : Gl X "len" := by rfl) (he1 : starEach [.SetComp (.Attribute (.Name x pe) f pa) [⟨.Name x px, iter, [], 0⟩] scope pos] X.env = (false, eval (.SetComp (.Attribute (.Name x pe) f pa) [⟨.Name x px, iter, [], 0⟩] scope pos) X.env) :: starEach [] X.env := by rfl) (hpl1 : (backTo pos2 (starEach [] X.env)).any (·.1) = false := by rfl) :
    WE X Γ M (.Call (.Name "len" p) [.SetComp (.Attribute (.Name x pe) f pa) [⟨.Name x px, iter, [], 0⟩] scope pos] [] pos2) Φ := fun P σ H s m => by
  intro pins sh I
  have hset := pe_sx (X := X) (own := own) (scope := scope) (pos := pos) (fun D => txO X.prog X.w D []) (fun D y G Nx => ∃ k l, y = .str k ∧ G D = some (txO X.prog X.w D l) ∧ l.length + 1 < scanBound ∧ Nx (upd G D (txO X.prog X.w D (addS l k))))
    (fun G h => tx_new ((setObjOf_fresh _).setOf (Heap.get?_push_size _ rfl) (by decide)))
    (fun s0 H0 ce fp pins σ G s D y u Nx Q E I ry ⟨k, l, ey, hD, hl, nx⟩ q => by
      subst ey
      exact tx_add (X := X.blk s0 H0 scope ce fp) I hD ry hl fun s' I' => q s' _ I' nx)
    hc hN (pi_tup pe_wp) ok hg hk hs
  refine (pe_callB call_lenTx hgl hms boot_len (pa_cons hset pa_nil he1) (by decide) (by decide) he1 hpl1).run pins sh σ H _ I ?_
  refine (h P σ H s m).mono fun v H1 ⟨d, M1, P1, ⟨xs, nm, hd, hl, hy, q⟩, e1, m1, i1⟩ => ?_
  subst hd
  cases i1 with
  | @tup a vs _ hq hlv hi =>
    refine ⟨a, rfl, ⟨vs, Same.tupS m1.ex hq⟩, fun D hD => ?_⟩
    have hPD : P1 D = none := m1.ex.free hD
    have eU : ∀ o, Ex P1 (upd H1 D o) := fun o b u z => by
      rw [upd_ne (ne_of_none z hPD)]
      exact m1.ex _ _ z
    refine ⟨fun i n G => n = vs.length - i ∧ i ≤ vs.length ∧ ∃ l, G = upd H1 D (txO X.prog X.w D l) ∧ l = ((xs.take i).map nm).foldl addS [] ∧ l.length ≤ i, ⟨vs.length, rfl, Nat.zero_le _, [], rfl, rfl, Nat.le_refl _⟩, ?_⟩
    rintro i n G ⟨rfl, hin, l, rfl, hk1, hk2⟩
    have hqq : SqT X.K (upd H1 D (txO X.prog X.w D l)) a vs := Same.tupS (eU _) hq
    by_cases hlt : i < vs.length
    · have hx : vs[i]? = some (vs[i]) := List.getElem?_eq_getElem _
      refine .inr ⟨⟨vs, _, hqq, hx⟩, _, fun G' z => ⟨vs.length - (i + 1), by omega, rfl, hlt, z⟩, fun x0 G2 ⟨eG, hz⟩ => ?_⟩
      subst eG
      have ex : x0 = vs[i] := Option.some.inj ((hz vs hqq).symm.trans hx)
      subst ex
      have hik : i < xs.length := by omega
      have hkd : xs[i]? = some (xs[i]) := List.getElem?_eq_getElem hik
      obtain ⟨C, fs, ey, hc1, hn1, hf1⟩ := hy (xs[i]) (List.getElem_mem hik)
      have iy := hi i _ _ hx hkd
      have hσ : ((wipe σ (own.map (·.2))).set j (some (vs[i])))[j]? = some (some (vs[i])) := by
        rw [List.getElem?_set_self]
        rw [wipe_length]
        exact hjb σ I.len
      generalize hyv : vs[i] = yv at iy hσ ⊢
      generalize hyd : xs[i] = yd at iy ey hf1 hkd
      subst ey
      cases iy with
      | @obj a2 _ dx2 fs2 _ h2 hl2 hi2 =>
        obtain ⟨w1, hw1, hw2⟩ := IsFs.lookup (K := X.K) (P := P1) (xs := fs2) ⟨hl2, hi2⟩ hf1
        cases hw2
        refine ⟨by rw [wipe_set hj, wipe_wipe], a2, C, dx2, fs2, _, hσ, eU _ _ _ h2, hc1, hn1, hw1, _, l, rfl, upd_same, by have e : scanBound = 4096 := rfl; omega, _, by rw [upd_upd], ?_, Nat.le_trans addS_len (Nat.succ_le_succ hk2)⟩
        rw [take_1 hkd, List.map_append, List.foldl_append, ← hk1]
        rfl
    · have ei : i = vs.length := by omega
      subst ei
      refine .inl ⟨⟨vs, hqq, Nat.le_refl _⟩, D, l, rfl, upd_same, ?_⟩
      obtain ⟨m2, e2⟩ := m1.push (o := txO X.prog X.w D l) hD
      rw [hlv, List.take_length] at hk1
      refine ⟨_, M1, _, q, e1.trans e2, m2, ?_⟩
      rw [hk1]
      exact .int
/-- len({x.f for x in ..}), texts -/
theorem we_lenSetL (hN : X.N.Nodup) (hms : X.mg "len" = none) (h : WE X Γ M iter fun d M1 => ∃ (xs : List D) (nm : D → Str), d = .lst xs ∧ xs.length < 4000 ∧ (∀ y, y ∈ xs → ∃ C fs, y = .obj C fs ∧ Cls X.K C ∧ NoAttr X.K C f ∧ fs.lookup f = some (.str (nm y))) ∧ Φ (.int (((xs.map nm).foldl addS []).length : Int)) M1)
    (hj : j ∈ own.map (·.2)) (hjb : ∀ σ : L2.St, σ.length = X.N.length → j < σ.length) (ok : BlkOk X.N X.env.scope scope own) (hc : X.calm = true)
    (hg : ∀ (s : Shared) (H : Hp) (C : Addr) (cl : List (Str × Addr)) (fp : List Addr), PG (X.blk s H scope (compEnvC scope cl C X.env) fp) (.Name x px) (gName j))
    (hk : ∀ (s : Shared) (H : Hp) (C : Addr) (cl : List (Str × Addr)) (fp : List Addr), PE (X.blk s H scope (compEnvC scope cl C X.env) fp) (.Attribute (.Name x pe) f pa) (tAt X.K j f))
    (hs : ∀ x, foldedSetIterable iter X.env x = pure x) (hgl : Gl X "len" := by rfl) (he1 : starEach [.SetComp (.Attribute (.Name x pe) f pa) [⟨.Name x px, iter, [], 0⟩] scope pos] X.env = (false, eval (.SetComp (.Attribute (.Name x pe) f pa) [⟨.Name x px, iter, [], 0⟩] scope pos) X.env) :: starEach [] X.env := by rfl) (hpl1 : (backTo pos2 (starEach [] X.env)).any (·.1) = false := by rfl) :
    WE X Γ M (.Call (.Name "len" p) [.SetComp (.Attribute (.Name x pe) f pa) [⟨.Name x px, iter, [], 0⟩] scope pos] [] pos2) Φ := fun P σ H s m => by
  intro pins sh I
  have hset := pe_sx (X := X) (own := own) (scope := scope) (pos := pos) (fun D => txO X.prog X.w D []) (fun D y G Nx => ∃ k l, y = .str k ∧ G D = some (txO X.prog X.w D l) ∧ l.length + 1 < scanBound ∧ Nx (upd G D (txO X.prog X.w D (addS l k))))
    (fun G h => tx_new ((setObjOf_fresh _).setOf (Heap.get?_push_size _ rfl) (by decide)))
    (fun s0 H0 ce fp pins σ G s D y u Nx Q E I ry ⟨k, l, ey, hD, hl, nx⟩ q => by
      subst ey
      exact tx_add (X := X.blk s0 H0 scope ce fp) I hD ry hl fun s' I' => q s' _ I' nx)
    hc hN (pi_list pe_wp) ok hg hk hs
  refine (pe_callB call_lenTx hgl hms boot_len (pa_cons hset pa_nil he1) (by decide) (by decide) he1 hpl1).run pins sh σ H _ I ?_
  refine (h P σ H s m).mono fun v H1 ⟨d, M1, P1, ⟨xs, nm, hd, hl, hy, q⟩, e1, m1, i1⟩ => ?_
  subst hd
  cases i1 with
  | @lst a vs _ hq hlv hi =>
    refine ⟨a, rfl, ⟨vs, m1.ex.seq hq⟩, fun D hD => ?_⟩
    have hPD : P1 D = none := m1.ex.free hD
    have eU : ∀ o, Ex P1 (upd H1 D o) := fun o b u z => by
      rw [upd_ne (ne_of_none z hPD)]
      exact m1.ex _ _ z
    refine ⟨fun i n G => n = vs.length - i ∧ i ≤ vs.length ∧ ∃ l, G = upd H1 D (txO X.prog X.w D l) ∧ l = ((xs.take i).map nm).foldl addS [] ∧ l.length ≤ i, ⟨vs.length, rfl, Nat.zero_le _, [], rfl, rfl, Nat.le_refl _⟩, ?_⟩
    rintro i n G ⟨rfl, hin, l, rfl, hk1, hk2⟩
    have hqq : SqL X.K (upd H1 D (txO X.prog X.w D l)) a vs := Same.seq (eU _) hq
    by_cases hlt : i < vs.length
    · have hx : vs[i]? = some (vs[i]) := List.getElem?_eq_getElem _
      refine .inr ⟨⟨vs, _, hqq, hx⟩, _, fun G' z => ⟨vs.length - (i + 1), by omega, rfl, hlt, z⟩, fun x0 G2 ⟨eG, hz⟩ => ?_⟩
      subst eG
      have ex : x0 = vs[i] := Option.some.inj ((hz vs hqq).symm.trans hx)
      subst ex
      have hik : i < xs.length := by omega
      have hkd : xs[i]? = some (xs[i]) := List.getElem?_eq_getElem hik
      obtain ⟨C, fs, ey, hc1, hn1, hf1⟩ := hy (xs[i]) (List.getElem_mem hik)
      have iy := hi i _ _ hx hkd
      have hσ : ((wipe σ (own.map (·.2))).set j (some (vs[i])))[j]? = some (some (vs[i])) := by
        rw [List.getElem?_set_self]
        rw [wipe_length]
        exact hjb σ I.len
      generalize hyv : vs[i] = yv at iy hσ ⊢
      generalize hyd : xs[i] = yd at iy ey hf1 hkd
      subst ey
      cases iy with
      | @obj a2 _ dx2 fs2 _ h2 hl2 hi2 =>
        obtain ⟨w1, hw1, hw2⟩ := IsFs.lookup (K := X.K) (P := P1) (xs := fs2) ⟨hl2, hi2⟩ hf1
        cases hw2
        refine ⟨by rw [wipe_set hj, wipe_wipe], a2, C, dx2, fs2, _, hσ, eU _ _ _ h2, hc1, hn1, hw1, _, l, rfl, upd_same, by have e : scanBound = 4096 := rfl; omega, _, by rw [upd_upd], ?_, Nat.le_trans addS_len (Nat.succ_le_succ hk2)⟩
        rw [take_1 hkd, List.map_append, List.foldl_append, ← hk1]
        rfl
    · have ei : i = vs.length := by omega
      subst ei
      refine .inl ⟨⟨vs, hqq, Nat.le_refl _⟩, D, l, rfl, upd_same, ?_⟩
      obtain ⟨m2, e2⟩ := m1.push (o := txO X.prog X.w D l) hD
      rw [hlv, List.take_length] at hk1
      refine ⟨_, M1, _, q, e1.trans e2, m2, ?_⟩
      rw [hk1]
      exact .int
end
end Dt

set_option Elab.async false
set_option linter.all false
set_option maxRecDepth 100000
set_option maxHeartbeats 4000000
/-! Dt, part 32: o.pop(i). -/
namespace Dt
open PySem PySem.Spec PyProof.Rows L2
theorem isDs_erase {K : PySem.W.Frag} {P : Hp} {xs : List V} {ds : List D} (h : IsDs K P xs ds) (j : Nat) : IsDs K P (xs.eraseIdx j) (ds.eraseIdx j) := by
  refine ⟨by rw [List.length_eraseIdx, List.length_eraseIdx, h.1], fun i x d a b => ?_⟩
  rw [List.getElem?_eraseIdx] at a b
  split at a
  · rename_i hi
    rw [if_pos hi] at b
    exact h.2 i x d a b
  · rename_i hi
    rw [if_neg hi] at b
    exact h.2 _ x d a b
section
variable {X : Cx} {Γ : Sl} {M : Mem} {Φ : VP} {o e : Expr} {apos pos : Pos}
theorem we_popAt (h : WE X Γ M o fun d M1 => ∃ (l : Addr) (k0 : Nat) (ds0 : List D), d = .adr l ∧ M1[k0]? = some (l, .lst ds0) ∧ WE X Γ M1 e fun z M2 => ∃ (k j : Nat) (ds : List D) (y : D), z = .int (j : Int) ∧ M2[k]? = some (l, .lst ds) ∧ ds.length < 2 ^ 62 ∧ ds[j]? = some y ∧ Φ y (M2.set k (l, .lst (ds.eraseIdx j))))
    (hq : PE X (.Call (.Attribute o "pop" apos) [e] [] pos) (tBM X.K "list" rPopAt (wpT X o) (wpA X [e])) := by exact pe_bm PySem.F.plainAttrs_list PySem.F.slot_list_pop PySem.F.type_list_pop mt_popAt pe_wp pa_wp)
    (hs : starEach [e] X.env = (false, eval e X.env) :: starEach [] X.env := by rfl) : WE X Γ M (.Call (.Attribute o "pop" apos) [e] [] pos) Φ := fun P σ H s m =>
  wpT_of hq ((h P σ H s m).mono fun v H1 ⟨d, M1, P1, ⟨l, k0, ds0, ed, hk0, q⟩, e1, m1, i1⟩ => by
    subst ed
    cases i1
    have hA : WA X Γ M1 [e] fun ds' M2 => ∃ z, ds' = [z] ∧ ∃ (k j : Nat) (ds : List D) (y : D), z = .int (j : Int) ∧ M2[k]? = some (l, .lst ds) ∧ ds.length < 2 ^ 62 ∧ ds[j]? = some y ∧ Φ y (M2.set k (l, .lst (ds.eraseIdx j))) :=
      wa_cons (q.mono fun y M2 z => wa_nil ⟨y, rfl, z⟩) hs
    obtain ⟨_, xs0, h01, h02⟩ := m1.get hk0
    refine ⟨.inl ⟨rfl, xs0, SqL.of h01⟩, (hA P1 σ H1 (s.mono e1) m1).mono fun vs H2 ⟨ds', M2, P2, ⟨z, ez, k, j, ds, y, ej, hk, hlen, hy, q2⟩, e2, m2, i2⟩ => ?_⟩
    subst ez ej
    obtain ⟨u, rfl, hu⟩ := i2.un1
    cases hu
    obtain ⟨_, xs, h1, h2⟩ := m2.get hk
    obtain ⟨y', hy1, hy2⟩ := h2.get hy
    have hjl : j < xs.length := (List.getElem?_eq_some_iff.mp hy1).1
    have hjd : j < ds.length := (List.getElem?_eq_some_iff.mp hy).1
    have hsi : seqIndex? (j : Int) xs.length = some j := by
      unfold seqIndex?
      simp
      omega
    exact ⟨l, xs, (j : Int), j, y', rfl, rfl, h1, by omega, by omega, hsi, hy1, y, _, P2, q2, e1.trans e2, m2.put hk ⟨_, upd_same, isDs_erase h2 j⟩, hy2⟩)
end
end Dt

set_option Elab.async false
set_option linter.all false
set_option maxRecDepth 100000
set_option maxHeartbeats 4000000
/-! Dt, part 33: two promises of one def as one. -/
namespace Dt
open PySem PySem.Spec PyProof.Rows L2
section
variable {P : Program} {w : World} {K : PySem.W.Frag} {mg : Str → Option Value} {base : Heap} {k : Nat} {f : Addr} {fd : FuncData} {ps : List Str} {CX : CXT}
theorem fn_or {sp1 sp2 : Sp} (F1 : FnOk P w K mg base CX k f fd ps sp1) (F2 : FnOk P w K mg base CX k f fd ps sp2) : FnOk P w K mg base CX k f fd ps (fun vs H Q E => sp1 vs H Q E ∨ sp2 vs H Q E) :=
  ⟨fun vs H Q E h => h.elim (F1.len vs H Q E) (F2.len vs H Q E), fun A outer s H args us vs Q E hr e hb r h => h.elim (F1.run A outer s H args us vs Q E hr e hb r) (F2.run A outer s H args us vs Q E hr e hb r)⟩
/-- two promises by data -/
theorem fn_orD {S1 S2 S : DS} (F1 : FnOk P w K mg base CX k f fd ps (spOf K S1)) (F2 : FnOk P w K mg base CX k f fd ps (spOf K S2)) (h : ∀ ds M Φ, S ds M Φ → S1 ds M Φ ∨ S2 ds M Φ) : FnOk P w K mg base CX k f fd ps (spOf K S) :=
  (fn_or F1 F2).imp fun vs H Q E ⟨P1, M, ds, Φ, i, m, hs, q⟩ => (h ds M Φ hs).elim (fun z => .inl ⟨P1, M, ds, Φ, i, m, z, q⟩) fun z => .inr ⟨P1, M, ds, Φ, i, m, z, q⟩
/-- .. of a def that may raise -/
theorem fn_orX {S1 S2 S : DSx} (F1 : FnOk P w K mg base CX k f fd ps (spOfX K S1)) (F2 : FnOk P w K mg base CX k f fd ps (spOfX K S2)) (h : ∀ ds M Φ Ξ, S ds M Φ Ξ → S1 ds M Φ Ξ ∨ S2 ds M Φ Ξ) : FnOk P w K mg base CX k f fd ps (spOfX K S) :=
  (fn_or F1 F2).imp fun vs H Q E ⟨P1, M, ds, Φ, Ξ, i, m, hs, q⟩ => (h ds M Φ Ξ hs).elim (fun z => .inl ⟨P1, M, ds, Φ, Ξ, i, m, z, q⟩) fun z => .inr ⟨P1, M, ds, Φ, Ξ, i, m, z, q⟩
end
end Dt

set_option Elab.async false
set_option linter.all false
set_option maxRecDepth 100000
set_option maxHeartbeats 2000000
/-! Dt, part 34: list + list that change no more, a place of a list as a target, range with a step, comprehensions over tuples of four. -/
namespace Dt
open PySem PySem.Spec PyProof.Rows L2
section
variable {X : Cx} {Γ : Sl} {M : Mem} {Φ : VP} {Ψ : Po} {a b c e o tg elt iter : Expr} {ifs : List Expr} {scope : Scope} {own : List (Str × Nat)} {body : List Stmt} {pos p pos2 pos' : Pos} {Θ : Sl → Mem → Prop} {d : D}
def rCatL (K : PySem.W.Frag) : R2 := fun x y H Q => ∃ l b xs zs, x = .ref l ∧ y = .ref b ∧ SqL K H l xs ∧ SqL K H b zs ∧ xs.length + zs.length ≤ sizeLine ∧ ∀ p, H p = none → Q (.ref p) (upd H p (.lst (xs ++ zs)))
theorem op_catL : OpR X (binaryOp .Add) (rCatL X.K) := by
  intro pins s σ H x y v u Q I rx ry h
  obtain ⟨l, b, xs, zs, rfl, rfl, hH, hB, hz, q⟩ := h
  cases rx
  cases ry
  obtain ⟨its, r, ⟨⟨cls, dd, data, sl⟩, n, ho, hc, hdd, hd⟩, hl⟩ := I.list hH
  obtain ⟨its2, r2, ⟨⟨cls2, dd2, data2, sl2⟩, n2, ho2, hc2, hdd2, hd2⟩, hl2⟩ := I.list hB
  simp only at hc hd hc2 hd2
  subst hc hd hc2 hd2
  have e : its.toArray ++ its2.toArray = (its ++ its2).toArray := by simp
  have z1 := r.length
  have z2 := r2.length
  refine concat_meets ⟨_, ho, rfl⟩ ⟨_, ho2, rfl⟩ noFill_list_add seq_list_add PySem.F.slot_list_add PySem.F.entry_list_add (PySem.F.args_list_add_2 _ _) (list_addW l b its.toArray its2.toArray n n2 dd dd2 sl sl2 (by rw [List.size_toArray, List.size_toArray]; omega)) ⟨ho, ho2, ?_⟩
  rw [e]
  exact ⟨.ref _, _, I.lnew (t' := s.toks) (r.append r2) (by rw [List.length_append]; omega), rfl, q _ I.fresh⟩
/-- a list: one that changes no more, or one of one's own -/
def LstD (M : Mem) (d : D) (ds : List D) : Prop := d = .lst ds ∨ ∃ (k : Nat) (l : Addr), d = .adr l ∧ M[k]? = some (l, .lst ds)
theorem LstD.at_ {K : PySem.W.Frag} {P H : Hp} {v : V} {ds : List D} (h : LstD M d ds) (m : MOk K M P H) (i : IsD K P v d) : ∃ l xs, v = .ref l ∧ SqL K H l xs ∧ IsDs K P xs ds := by
  rcases h with rfl | ⟨k, l, rfl, hk⟩
  · cases i with
    | lst hq hl hi => exact ⟨_, _, rfl, m.ex.seq hq, hl, hi⟩
  · cases i
    obtain ⟨_, xs, h1, h2⟩ := m.get hk
    exact ⟨_, _, rfl, SqL.of h1, h2⟩
theorem od_catL {x y : D} {ds es : List D} (hx : LstD M x ds) (hy : LstD M y es) (hl : ds.length + es.length ≤ sizeLine) (q : Φ (.lst (ds ++ es)) M) : OpD X (binaryOp .Add) x y M Φ := fun P H a b m ia ib => by
  obtain ⟨l, xs, rfl, h1, h2⟩ := hx.at_ m ia
  obtain ⟨l2, ys, rfl, h3, h4⟩ := hy.at_ m ib
  refine opT_of op_catL ⟨l, l2, xs, ys, rfl, rfl, h1, h3, by rw [h2.1, h4.1]; exact hl, fun p hp => ?_⟩
  obtain ⟨m2, e2⟩ := m.push (o := .lst (xs ++ ys)) hp
  have h5 := h2.append h4
  exact ⟨_, M, _, q, e2, m2, .lst (SqL.of upd_same) h5.1 fun i x d a b => (h5.2 i x d a b).mono e2⟩
theorem od_catLO {x y : D} {ds es : List D} (hx : LstD M x ds) (hy : LstD M y es) (hl : ds.length + es.length ≤ sizeLine) (q : ∀ p, Φ (.adr p) ((p, .lst (ds ++ es)) :: M)) : OpD X (binaryOp .Add) x y M Φ := fun P H a b m ia ib => by
  obtain ⟨l, xs, rfl, h1, h2⟩ := hx.at_ m ia
  obtain ⟨l2, ys, rfl, h3, h4⟩ := hy.at_ m ib
  refine opT_of op_catL ⟨l, l2, xs, ys, rfl, rfl, h1, h3, by rw [h2.1, h4.1]; exact hl, fun p hp => ?_⟩
  exact ⟨_, _, P, q p, Same.refl P, m.own hp ⟨_, upd_same, h2.append h4⟩, .adr⟩
/-- a target that is a place of a list of one's own -/
theorem gd_sub (h : WE X Γ M o fun d2 M2 => WE X Γ M2 b fun d3 M3 => ∃ (k j : Nat) (l : Addr) (ds : List D) (i : Int), d2 = .adr l ∧ d3 = .int i ∧ M3[k]? = some (l, .lst ds) ∧ i = (j : Int) ∧ j < ds.length ∧ Θ Γ (M3.set k (l, .lst (ds.set j d))))
    (hg : PG X (.Subscript o b pos') (gSub (wpT X o) (wpT X b) rSetL) := by exact pg_sub pe_wp pe_wp set_list) : GD X Γ M (.Subscript o b pos') d Θ := fun P σ H v s m i1 =>
  wpG_of hg ((h P σ H s m).mono fun u H2 ⟨d2, M2, P2, q2, e2, m2, i2⟩ => (q2 P2 σ H2 (s.mono e2) m2).mono fun u3 H3 ⟨d3, M3, P3, ⟨k, j, l, ds, i, ea, eb, hk, hj, hb, q3⟩, e3, m3, i3⟩ => by
    subst ea eb hj
    cases i2
    cases i3
    obtain ⟨_, xs, h1, h2⟩ := m3.get hk
    refine ⟨l, xs, (j : Int), j, rfl, rfl, h1, ?_, Γ, _, P3, q3, e2.trans e3, s.mono (e2.trans e3), m3.put hk ⟨_, upd_same, ?_⟩⟩
    · unfold ixN
      rw [if_pos (by omega), if_pos (by rw [h2.1]; omega)]
      simp
    · refine ⟨by rw [List.length_set, List.length_set]; exact h2.1, fun n x d' a b => ?_⟩
      by_cases hn : j = n
      · subst hn
        rw [List.getElem?_set_self (by rw [h2.1]; exact hb)] at a
        rw [List.getElem?_set_self hb] at b
        cases a
        cases b
        exact (i1.mono e2).mono e3
      · rw [List.getElem?_set_ne hn] at a b
        exact h2.2 n x d' a b)
/-- for i in range(a, b, -1) -/
theorem w1_forRD (hp : PassesOwn (model X.prog X.w) X.A X.env X.xe) (hc : X.calm = true) (hg : Gl X "range") (hm : X.mg "range" = none)
    (h : WA X Γ M [a, b, c] fun ds M1 => ∃ (Iv : Nat → Sl → Mem → Prop) (lo n : Int), ds = [.int lo, .int n, .int (-1)] ∧ (-(2 ^ 62) ≤ lo ∧ lo < 2 ^ 62 ∧ -(2 ^ 62) ≤ n ∧ n < 2 ^ 62) ∧ Iv 0 Γ M1 ∧ (∀ (i : Nat) Γ' M', n < lo - (i : Int) → Iv i Γ' M' → GD X Γ' M' tg (.int (lo - (i : Int))) fun Γ2 M2 => WS X Γ2 M2 body { Ψ with nx := Iv (i + 1), ct := Iv (i + 1), bk := Ψ.nx }) ∧ ∀ Γ' M', Iv (lo - n).toNat Γ' M' → Ψ.nx Γ' M')
    (hs : starEach [a, b, c] X.env = (false, eval a X.env) :: starEach [b, c] X.env := by rfl) (hpl : (backTo pos2 (starEach [b, c] X.env)).any (·.1) = false := by rfl) (hf : ∀ x, foldedSetIterable (.Call (.Name "range" p) [a, b, c] [] pos2) X.env x = pure x := by intro _; rfl) : W1 X Γ M (.For tg (.Call (.Name "range" p) [a, b, c] [] pos2) body [] pos) Ψ := fun P σ H s m =>
  wpS_of (ps_for hp hc (pi_range3 hg hm pa_wp hs hpl) pg_wp pss_wp hf) ((h P σ H s m).mono fun vs H1 ⟨ds, M1, P1, ⟨Iv, lo, n, ed, ⟨h1, h2, h3, h4⟩, hI, hstep, hdone⟩, e1, m1, i1⟩ => by
    subst ed
    obtain ⟨v, r, rfl, hv, hr⟩ := i1.uncons
    obtain ⟨v2, r2, rfl, hv2, hr2⟩ := hr.uncons
    obtain ⟨v3, r3, rfl, hv3, hr3⟩ := hr2.uncons
    obtain rfl := hr3.unnil
    cases hv
    cases hv2
    cases hv3
    refine ⟨lo, n, -1, (lo - n).toNat, rfl, RgC.neg h1 h2 h3 h4, for_rangeC (lo := lo) (c := -1) (n := (lo - n).toNat) (fun i => FinS X.K P (Iv i)) ⟨Γ, M1, P1, hI, e1, s.mono e1, m1⟩ ?_ ?_⟩
    · rintro i σ' H' hi ⟨Γ', M', P', hI', e', s', m'⟩
      rw [show lo + (i : Int) * -1 = lo - (i : Int) by omega]
      refine (hstep i Γ' M' (by omega) hI' P' σ' H' (.int (lo - (i : Int))) s' m' .int).mono fun σ2 H2 ⟨Γ2, M2, P2, q, e2, s2, m2⟩ => (q P2 σ2 H2 s2 m2).mono ?_
      exact ⟨fun _ _ z => z.up (e'.trans e2), fun _ _ z => z.up (e'.trans e2), fun _ _ z => z.up (e'.trans e2), fun _ _ z => z.up (e'.trans e2)⟩
    · rintro σ' H' ⟨Γ', M', P', hI', e', s', m'⟩
      exact ⟨Γ', M', P', hdone Γ' M' hI', e', s', m'⟩)
theorem IsDs.un4 {K : PySem.W.Frag} {P : Hp} {vs : List V} {d d2 d3 d4 : D} (h : IsDs K P vs [d, d2, d3, d4]) : ∃ v v2 v3 v4, vs = [v, v2, v3, v4] ∧ IsD K P v d ∧ IsD K P v2 d2 ∧ IsD K P v3 d3 ∧ IsD K P v4 d4 := by
  obtain ⟨a, r, rfl, ha, h⟩ := h.uncons
  obtain ⟨b, r, rfl, hb, h⟩ := h.uncons
  obtain ⟨c, r, rfl, hc, h⟩ := h.uncons
  obtain ⟨e, r, rfl, he, h⟩ := h.uncons
  obtain rfl := h.unnil
  exact ⟨a, b, c, e, rfl, ha, hb, hc, he⟩
/-- [elt for x, y, z, u in tuple if ..] -/
theorem we_lcT4 {tgt : Expr} {j j2 j3 j4 : Nat} (hN : X.N.Nodup)
    (h : WE X Γ M iter fun d M1 => ∃ (J : Nat → List D → Mem → Prop) (xs : List D), d = .tup xs ∧ J 0 [] M1 ∧
      (∀ (i : Nat) (y : D) (l : Addr) (out : List D) (M' : Mem), xs[i]? = some y → J i out M' → ∃ y1 y2 y3 y4, y = .tup [y1, y2, y3, y4] ∧ Turn1 X scope ifs elt (J (i + 1)) (((((wipeD Γ (own.map (·.2))).set j (some y1)).set j2 (some y2)).set j3 (some y3)).set j4 (some y4)) l out M') ∧ ∀ l out M', J xs.length out M' → Φ (.adr l) ((l, .lst out) :: M'))
    (hj : j ∈ own.map (·.2)) (hj2 : j2 ∈ own.map (·.2)) (hj3 : j3 ∈ own.map (·.2)) (hj4 : j4 ∈ own.map (·.2)) (ok : BlkOk X.N X.env.scope scope own) (hc : X.calm = true)
    (hg : ∀ (s : Shared) (H : Hp) (C : Addr) (cl : List (Str × Addr)) (fp : List Addr), PG (X.blk s H scope (compEnvC scope cl C X.env) fp) tgt (gTup X.K 4 (gCons (gName j) (gCons (gName j2) (gCons (gName j3) (gCons (gName j4) gNil))))))
    (hs : ∀ x, foldedSetIterable iter X.env x = pure x) : WE X Γ M (.ListComp elt [⟨tgt, iter, ifs, 0⟩] scope pos) Φ := fun P σ H s m => by
  refine wpT_of (pe_lc (tt := tsB X scope ifs) (te := teB X scope elt) hc hN (pi_tup pe_wp) ok hg (fun s0 H0 C cl fp => ⟨fun pins sh σ' H' Q I q => q s0 H0 C cl fp pins sh I⟩) (fun s0 H0 C cl fp => ⟨fun pins sh σ' H' Q I q => q s0 H0 C cl fp pins sh I⟩) hs) ?_
  refine (h P σ H s m).mono fun v H1 ⟨d, M1, P1, ⟨J, xs, hd, j0, hstep, hdone⟩, e1, m1, i1⟩ => ?_
  subst hd
  cases i1 with
  | @tup a vs _ hq hl hi =>
    refine ⟨a, rfl, ⟨vs, Same.tupS m1.ex hq⟩, fun l hn => lc_tup (xs := vs) (fun i => LcInv X.K P1 l (J i)) ⟨[], M1, P1, j0, Same.refl P1, m1.own hn ⟨[], upd_same, .nil⟩⟩ (fun i H' _ ⟨out, M', P', jj, e', m'⟩ => (Same.tupS m'.ex (Same.tupS e' hq))) ?_ ?_⟩
    · rintro i x0 H' hx ⟨out, M', P', jj, e', m'⟩
      obtain ⟨y, hy, iy⟩ := IsDs.getV (K := X.K) (P := P1) ⟨hl, hi⟩ hx
      obtain ⟨y1, y2, y3, y4, ey, ht⟩ := hstep i y l out M' hy jj
      subst ey
      cases iy with
      | tup hs2 hl2 hi2 =>
        obtain ⟨u1, u2, u3, u4, eu, hu1, hu2, hu3, hu4⟩ := IsDs.un4 (K := X.K) (P := P1) ⟨hl2, hi2⟩
        subst eu
        refine ⟨_, _, rfl, Same.tupS m'.ex (Same.tupS e' hs2), rfl, u1, [u2, u3, u4], rfl, u2, [u3, u4], rfl, u3, [u4], rfl, u4, [], rfl, rfl, ?_⟩
        refine ⟨by rw [wipe_set hj4, wipe_set hj3, wipe_set hj2, wipe_set hj, wipe_wipe], ?_⟩
        exact lc_turn ht e' (((((sok_wipe (s.mono (e1.trans e')) (own.map (·.2))).set (hu1.mono e')).set (hu2.mono e')).set (hu3.mono e')).set (hu4.mono e')) m'
    · rintro H' ⟨out, M', P', jj, e', m'⟩
      exact ⟨_, _, P', hdone l out M' (by rw [← hl]; exact jj), e1.trans e', m', .adr⟩
/-- [elt for x, y, z, u in a tuple of tuples]: elt makes g r of each r -/
theorem lcQuadT {α : Type} {tgt : Expr} {j j2 j3 j4 : Nat} (hN : X.N.Nodup)
    (h : WE X Γ M iter fun d M1 => ∃ (rs : List α) (f1 f2 f3 f4 g : α → D), d = .tup (rs.map fun r => .tup [f1 r, f2 r, f3 r, f4 r]) ∧ rs.length < sizeLine ∧
      (∀ r, r ∈ rs → ∀ l out s H C cl fp, WE (blkOf X scope s H C cl fp) (((((wipeD Γ (own.map (·.2))).set j (some (f1 r))).set j2 (some (f2 r))).set j3 (some (f3 r))).set j4 (some (f4 r))) ((l, .lst out) :: M1) elt fun z M2 => z = g r ∧ M2 = (l, .lst out) :: M1) ∧ Φ (.lst (rs.map g)) M1)
    (ok : BlkOk X.N X.env.scope scope own)
    (hg : ∀ (s : Shared) (H : Hp) (C : Addr) (cl : List (Str × Addr)) (fp : List Addr), PG (X.blk s H scope (compEnvC scope cl C X.env) fp) tgt (gTup X.K 4 (gCons (gName j) (gCons (gName j2) (gCons (gName j3) (gCons (gName j4) gNil))))))
    (hj : j ∈ own.map (·.2) := by decide) (hj2 : j2 ∈ own.map (·.2) := by decide) (hj3 : j3 ∈ own.map (·.2) := by decide) (hj4 : j4 ∈ own.map (·.2) := by decide) (hc : X.calm = true := by rfl) (hs : ∀ x, foldedSetIterable iter X.env x = pure x := by intro _; rfl) : WE X Γ M (.ListComp elt [⟨tgt, iter, [], 0⟩] scope pos) Φ := by
  refine we_frz (we_lcT4 hN (h.mono fun d M1 ⟨rs, f1, f2, f3, f4, g, hd, hl, he, q⟩ => ⟨fun i out M' => out = (rs.take i).map g ∧ M' = M1, _, hd, ⟨rfl, rfl⟩, ?_, ?_⟩) hj hj2 hj3 hj4 ok hc hg hs)
  · rintro i y l out M' hy ⟨rfl, rfl⟩
    obtain ⟨r, hr, rfl⟩ := getMap hy
    have hi := (List.getElem?_eq_some_iff.mp hr).1
    refine ⟨_, _, _, _, rfl, ?_⟩
    intro s H C cl fp
    refine wts_nil ⟨fun _ s H C cl fp => ?_, fun z => by cases z⟩
    refine (he r (List.mem_of_getElem? hr) l _ s H C cl fp).mono fun z M3 ⟨hz, hM3⟩ => ⟨_, hM3, ?_, ?_, rfl⟩
    · rw [List.length_map, List.length_take]
      omega
    · rw [take_1 hr, List.map_append, hz]
      rfl
  · rintro l out M' ⟨rfl, rfl⟩
    refine ⟨l, _, _, rfl, rfl, ?_⟩
    rw [List.length_map, List.take_length]
    exact q
end
end Dt

set_option Elab.async false
set_option linter.all false
set_option maxRecDepth 100000
set_option maxHeartbeats 2000000
/-! Dt, part 35: len(o), str(o) by own defs; == of an own object with other data; a list of one's own lent to a call. -/
namespace Dt
open PySem PySem.Spec PyProof.Rows L2
section
variable {X : Cx} {Γ : Sl} {M : Mem} {Φ : VP} {x y d : D} {k : Nat} {C : Addr} {fs : List (Str × D)} {S : DS}
/-- len(o) -/
theorem cd_lenO (F : HasMe X.prog X.w X.K X.mg X.base k C "__len__" S) (hr : Room (k + 1) X.A) (ho : ObjD M d C fs) (h : S [d] M fun r M1 => ∃ n : Nat, r = .int n ∧ n < 2 ^ 62 ∧ Φ (.int n) M1) : CaD X (.builtin "len") [d] M Φ := fun P H vs m i pins σ s us I r => by
  obtain ⟨f, fd, ps, F1, hm, hb⟩ := F
  obtain ⟨v, rfl, iv⟩ := i.un1
  obtain ⟨u, rfl, ru⟩ := r.one
  obtain ⟨a, dx, od, rfl, rfl, J⟩ := inst_of ho m iv I ru
  obtain ⟨mm, Fr1⟩ := I.fr
  refine PySem.W.len_K Fr1 I.ok.mod.kin J hm.at_ hm.fn (thn (run_me1 (vs := [.ref a]) F1 hr hb I (.cons rfl .nil) (.cons iv .nil) m h) fun u2 s2 ⟨v2, H2, I2, r2, d2, M2, P2, ⟨n, eb, hn, q⟩, e2, m2, i2⟩ => ?_)
  subst eb
  cases i2
  obtain ⟨t, rfl⟩ := r2
  exact ⟨⟨by omega, by omega⟩, .int n, H2, I2.tok _, ⟨_, rfl⟩, _, M2, P2, q, e2, m2, .int⟩
/-- str(o) -/
theorem cd_strO (F : HasMe X.prog X.w X.K X.mg X.base k C "__str__" S) (hr : Room (k + 2) X.A) (ho : ObjD M d C fs) (h : S [d] M fun r M1 => ∃ z : Str, r = .str z ∧ Φ (.str z) M1) : CaD X (.type "str") [d] M Φ := fun P H vs m i pins σ s us I r => by
  obtain ⟨f, fd, ps, F1, hm, hb⟩ := F
  obtain ⟨v, rfl, iv⟩ := i.un1
  obtain ⟨u, rfl, ru⟩ := r.one
  obtain ⟨a, dx, od, rfl, rfl, J⟩ := inst_of ho m iv I ru
  refine PySem.W.kso_call (by have := hr.un; show X.A.units + 1 + 1 < cLine; omega) I.kIn J hm.at_ hm.fn (thn (run_me2 (vs := [.ref a]) F1 hr hb I (.cons rfl .nil) (.cons iv .nil) m h) fun u2 s2 ⟨v2, H2, I2, r2, d2, M2, P2, ⟨z, eb, q⟩, e2, m2, i2⟩ => ?_)
  subst eb
  cases i2
  obtain ⟨t, rfl⟩ := r2
  exact ⟨.str z, H2, I2, ⟨_, rfl⟩, _, M2, P2, q, e2, m2, .str⟩
theorem ty_looks {P H : Hp} {v : V} {u : Value} {t : String} {pins : List (Addr × Obj)} {σ : L2.St} {s : Shared} (m : MOk X.K M P H) (i : IsD X.K P v d) (h : tyD d = some t) (I : Inv X pins σ H s) (r : RelV v u) : PySem.W.Looks (model X.prog X.w) s.heap (typeOf u) (.type t) := by
  obtain ⟨Q, kx, hq, _⟩ := kit_of I r (tyX_of m i h)
  exact kx.ty _ _ I.kIn hq
/-- a == b, a of an own class, b data of a type -/
theorem od_ownT {op : CmpOp} {nm : Str} {t : String} (F : HasMe X.prog X.w X.K X.mg X.base k C nm S) (hnm : (cmpInfo op).2.1 = nm) (hop : ∀ u w, compareOp op u w = richCompare op u w) (hr : Room k X.A) (ho : ObjD M x C fs) (ht : tyD y = some t) (hs : PySem.W.subIn X.K (.type t) (.ref C) = some false) (h : S [x, y] M Φ) : OpD X (compareOp op) x y M Φ := fun P H a b m ia ib pins σ s u w I r1 r2 => by
  obtain ⟨f, fd, ps, F1, hm, hb⟩ := F
  obtain ⟨a1, dx, od, rfl, rfl, J⟩ := inst_of ho m ia I r1
  obtain ⟨mm, Fr1⟩ := I.fr
  rw [hop]
  refine PySem.W.cmp_K hr.units0 Fr1 I.ok.mod.kin J (ty_looks m ib ht I r2) (by unfold PySem.W.notFirst; rw [hs]; exact Bool.or_true _) (by rw [hnm]; exact hm.at_) hm.fn (thn (run_me (vs := [.ref a1, b]) F1 hr hb I (.cons rfl (.cons r2 .nil)) (.cons ia (.cons ib .nil)) m h) fun u2 s2 ⟨v2, H2, I2, rv2, z⟩ => ?_)
  exact SlX.cmpback rv2 ⟨v2, H2, I2, rv2, z⟩
/-- a == b, of two own classes, neither over the other -/
theorem od_ownC {op : CmpOp} {nm : Str} {C' : Addr} {gs : List (Str × D)} (F : HasMe X.prog X.w X.K X.mg X.base k C nm S) (hnm : (cmpInfo op).2.1 = nm) (hop : ∀ u w, compareOp op u w = richCompare op u w) (hr : Room k X.A) (ho : ObjD M x C fs) (ho2 : ObjD M y C' gs) (hs : PySem.W.subIn X.K (.ref C') (.ref C) = some false) (h : S [x, y] M Φ) : OpD X (compareOp op) x y M Φ := fun P H a b m ia ib pins σ s u w I r1 r2 => by
  obtain ⟨f, fd, ps, F1, hm, hb⟩ := F
  obtain ⟨a1, dx, od, rfl, rfl, J⟩ := inst_of ho m ia I r1
  obtain ⟨a2, dx2, od2, rfl, rfl, J2⟩ := inst_of ho2 m ib I r2
  obtain ⟨mm, Fr1⟩ := I.fr
  rw [hop]
  refine PySem.W.cmp_K hr.units0 Fr1 I.ok.mod.kin J J2.type (by unfold PySem.W.notFirst; rw [hs]; exact Bool.or_true _) (by rw [hnm]; exact hm.at_) hm.fn (thn (run_me (vs := [.ref a1, .ref a2]) F1 hr hb I (.cons rfl (.cons rfl .nil)) (.cons ia (.cons ib .nil)) m h) fun u2 s2 ⟨v2, H2, I2, rv2, z⟩ => ?_)
  exact SlX.cmpback rv2 ⟨v2, H2, I2, rv2, z⟩
end
/-! ### a list of one's own, lent -/
mutual
/-- data without lists -/
def lf : D → Bool
  | .non => true
  | .bl _ => true
  | .int _ => true
  | .str _ => true
  | .ty _ => true
  | .tup xs => lfs xs
  | .lst _ => false
  | .obj _ fs => lff fs
  | .adr _ => true
  | .dic _ => true
def lfs : List D → Bool
  | [] => true
  | x :: xs => lf x && lfs xs
def lff : List (Str × D) → Bool
  | [] => true
  | x :: xs => lf x.2 && lff xs
end
theorem lfs_get : ∀ {xs : List D} {i : Nat} {d : D}, lfs xs = true → xs[i]? = some d → lf d = true
  | [], i, d, _, h => by simp at h
  | x :: xs, 0, d, q, h => by
    simp only [List.getElem?_cons_zero, Option.some.injEq] at h
    subst h
    exact (Bool.and_eq_true_iff.mp (show (lf x && lfs xs) = true from q)).1
  | x :: xs, i + 1, d, q, h => lfs_get (xs := xs) (i := i) ((Bool.and_eq_true_iff.mp (show (lf x && lfs xs) = true from q)).2) (by simpa using h)
theorem lff_get : ∀ {xs : List (Str × D)} {i : Nat} {d : Str × D}, lff xs = true → xs[i]? = some d → lf d.2 = true
  | [], i, d, _, h => by simp at h
  | x :: xs, 0, d, q, h => by
    simp only [List.getElem?_cons_zero, Option.some.injEq] at h
    subst h
    exact (Bool.and_eq_true_iff.mp (show (lf x.2 && lff xs) = true from q)).1
  | x :: xs, i + 1, d, q, h => lff_get (xs := xs) (i := i) ((Bool.and_eq_true_iff.mp (show (lf x.2 && lff xs) = true from q)).2) (by simpa using h)
/-- without what stands at l -/
def wo (P : Hp) (l : Addr) : Hp := fun a => if a = l then none else P a
section
variable {K : PySem.W.Frag} {P P' H : Hp} {l : Addr} {vs : List V}
theorem wo_ne {a : Addr} (h : a ≠ l) : wo P l a = P a := if_neg h
theorem wo_self : wo P l l = none := if_pos rfl
theorem wo_keep {a : Addr} {o : HO} (hl : P l = some (.lst vs)) (h : P a = some o) (hn : ∀ xs, o ≠ .lst xs) : wo P l a = some o := by
  have : a ≠ l := fun e => by
    subst e
    rw [hl] at h
    cases h
    exact hn _ rfl
  rw [wo_ne this]
  exact h
theorem wo_sqt {a : Addr} {xs : List V} (hl : P l = some (.lst vs)) (h : SqT K P a xs) : SqT K (wo P l) a xs := by
  rcases h with (h | ⟨ob, h⟩) | h
  · exact .inl (.inl (wo_keep hl h (fun _ e => by cases e)))
  · exact .inl (.inr ⟨ob, wo_keep hl h (fun _ e => by cases e)⟩)
  · exact .inr h
theorem wo_isD (hl : P l = some (.lst vs)) {v : V} {d : D} (h : IsD K P v d) (hf : lf d = true) : IsD K (wo P l) v d := by
  induction h with
  | non => exact .non
  | bl => exact .bl
  | int => exact .int
  | str => exact .str
  | ty => exact .ty
  | tup h hl' _ ih => exact .tup (wo_sqt hl h) hl' fun i x d a b => ih i x d a b (lfs_get hf b)
  | lst h hl' _ ih => cases hf
  | obj h hl' _ ih => exact .obj (wo_keep hl h (fun _ e => by cases e)) hl' fun i x d a b => ih i x d a b (lff_get hf b)
  | adr => exact .adr
  | dic h hk hi => exact .dic (wo_keep hl h (fun _ e => by cases e)) hk fun x hx => wo_sqt hl (hi x hx)
def lfM : MO → Bool
  | .lst ds => lfs ds
  | .ins _ fs => lff fs
theorem wo_has (hl : P l = some (.lst vs)) {a : Addr} {o : MO} (h : MHas K P H a o) (hf : lfM o = true) : MHas K (wo P l) H a o := by
  cases o with
  | lst ds =>
    obtain ⟨xs, h1, h2⟩ := h
    exact ⟨xs, h1, h2.1, fun i x d a b => wo_isD hl (h2.2 i x d a b) (lfs_get hf b)⟩
  | ins C fs =>
    obtain ⟨dx, xs, h1, h2⟩ := h
    exact ⟨dx, xs, h1, h2.1, fun i x d a b => wo_isD hl (h2.2 i x d a b) (lff_get hf b)⟩
end
section
variable {X : Cx} {Γ : Sl} {M : Mem} {Φ : VP} {e : Expr}
/-- a list of one's own is lent while e is evaluated -/
theorem we_lend (i : Nat) {l : Addr} {ds : List D} (hΓ : Γ[i]? = some (some (.adr l))) (h : WE X (Γ.set i (some (.lst ds))) M e fun d M' => lf d = true ∧ (∀ p, p ∈ M' → lfM p.2 = true) ∧ Φ d ((l, .lst ds) :: M')) : WE X Γ ((l, .lst ds) :: M) e Φ := fun P σ H s m => by
  obtain ⟨hp, xs, hx, hxd⟩ := m.at_ l (.lst ds) List.mem_cons_self
  obtain ⟨m2, e2⟩ := m.freeze hx
  have s2 : SOk X.K (Γ.set i (some (.lst ds))) (upd P l (.lst xs)) σ := by
    refine ⟨by rw [List.length_set]; exact s.len, fun j d q => ?_⟩
    by_cases hj : i = j
    · subst hj
      have hb : i < Γ.length := (List.getElem?_eq_some_iff.mp hΓ).1
      rw [List.getElem?_set_self hb] at q
      cases q
      obtain ⟨v, h1, h2⟩ := s.at_ i _ hΓ
      cases h2
      exact ⟨_, h1, .lst (.inl (.inl upd_same)) hxd.1 (hxd.mono e2).2⟩
    · rw [List.getElem?_set_ne hj] at q
      obtain ⟨v, h1, h2⟩ := s.at_ j d q
      exact ⟨v, h1, h2.mono e2⟩
  refine (h _ σ H s2 m2).mono fun v H2 ⟨d, M', P3, ⟨hf, hfm, q⟩, e3, m3, i3⟩ => ?_
  have hl3 : P3 l = some (.lst xs) := e3 _ _ upd_same
  have e4 : Ex P (wo P3 l) := fun a o ha => by
    have hne : a ≠ l := fun z => by
      subst z
      rw [hp] at ha
      cases ha
    rw [wo_ne hne]
    exact e3 _ _ (e2 _ _ ha)
  refine ⟨d, (l, .lst ds) :: M', wo P3 l, q, e4, ⟨fun a o ha => ?_, ?_, fun a o ha => ?_⟩, wo_isD hl3 i3 hf⟩
  · by_cases hne : a = l
    · subst hne
      rw [wo_self] at ha
      cases ha
    · rw [wo_ne hne] at ha
      exact m3.ex _ _ ha
  · rw [List.map_cons, List.nodup_cons]
    refine ⟨fun hm => ?_, m3.nd⟩
    obtain ⟨z, hz, ez⟩ := List.mem_map.mp hm
    have := (m3.at_ z.1 z.2 hz).1
    rw [ez] at this
    have this : P3 l = none := this
    rw [hl3] at this
    cases this
  · rcases List.mem_cons.mp ha with z | ha
    · cases z
      exact ⟨wo_self, xs, m3.ex _ _ hl3, hxd.mono e4⟩
    · obtain ⟨h1, h2⟩ := m3.at_ a o ha
      have hne : a ≠ l := fun z => by
        subst z
        rw [hl3] at h1
        cases h1
      exact ⟨by rw [wo_ne hne]; exact h1, wo_has hl3 h2 (hfm _ ha)⟩
end
end Dt

set_option Elab.async false
set_option linter.all false
set_option maxRecDepth 100000
set_option maxHeartbeats 2000000
/-! Dt, part 36: texts: join, split, partition, int(text), slices, f-strings, + , in. -/
namespace Dt
open PySem PySem.Spec PyProof.Rows L2
section
variable {X : Cx} {Γ : Sl} {M : Mem} {Φ : VP} {o e : Expr} {apos pos : Pos}
/-- a list or tuple of texts -/
def StrsD (M : Mem) (d : D) (ys : List Str) : Prop := LstD M d (ys.map D.str) ∨ d = .tup (ys.map D.str)
theorem StrsD.at_ {K : PySem.W.Frag} {P H : Hp} {v : V} {d : D} {ys : List Str} (h : StrsD M d ys) (m : MOk K M P H) (i : IsD K P v d) : ∃ p, v = .ref p ∧ (SqL K H p (ys.map V.str) ∨ SqT K H p (ys.map V.str)) := by
  rcases h with h | rfl
  · obtain ⟨l, xs, rfl, h1, h2⟩ := h.at_ m i
    rw [strs_of h2] at h1
    exact ⟨l, rfl, .inl h1⟩
  · cases i with
    | tup hs hl hi =>
      rw [strs_of ⟨hl, hi⟩] at hs
      exact ⟨_, rfl, .inr (Same.tupS m.ex hs)⟩
theorem we_join (h : WE X Γ M o fun d M1 => ∃ a, d = .str a ∧ WE X Γ M1 e fun d2 M2 => ∃ ys : List Str, StrsD M2 d2 ys ∧ (ys.map (·.length)).sum + ys.length * a.length ≤ 16777216 ∧ Φ (.str (Txt.join a ys)) M2) (hs : starEach [e] X.env = [(false, eval e X.env)] := by rfl) (hbase : attributeBase o "join" X.env (eval o X.env) = eval o X.env := by rfl) (hline : (apos.endLine == pos.line) = true := by rfl) : WE X Γ M (.Call (.Attribute o "join" apos) [e] [] pos) Φ := fun P σ H s m =>
  wpT_of (pe_join pe_wp pe_wp hs hbase hline) ((h P σ H s m).mono fun x H1 ⟨d, M1, P1, ⟨a, hd, h2⟩, e1, m1, i1⟩ => by
    subst hd
    cases i1
    refine ⟨⟨a, rfl⟩, (h2 P1 σ H1 (s.mono e1) m1).mono fun y H2 ⟨d2, M2, P2, ⟨ys, hd2, hz, q⟩, e2, m2, i2⟩ => ?_⟩
    obtain ⟨p, rfl, hq⟩ := hd2.at_ m2 i2
    exact ⟨a, p, ys, rfl, rfl, hq, hz, _, M2, P2, q, e1.trans e2, m2, .str⟩)
theorem isDs_strs {K : PySem.W.Frag} {P : Hp} (ys : List Str) : IsDs K P (ys.map V.str) (ys.map D.str) := by
  refine ⟨by rw [List.length_map, List.length_map], fun i x d a b => ?_⟩
  rw [List.getElem?_map] at a b
  cases e : ys[i]? with
  | none => rw [e] at a; cases a
  | some n =>
    rw [e] at a b
    cases a
    cases b
    exact .str
theorem we_split (h : WE X Γ M o fun d M1 => ∃ a, d = .str a ∧ a.length + 2 ≤ sizeLine ∧ WE X Γ M1 e fun d2 M2 => ∃ b, d2 = .str b ∧ (b.length == 0) = false ∧ Φ (.lst ((Txt.split a b).map D.str)) M2) (hs : starEach [e] X.env = [(false, eval e X.env)] := by rfl) (hbase : attributeBase o "split" X.env (eval o X.env) = eval o X.env := by rfl) (hline : (apos.endLine == pos.line) = true := by rfl) : WE X Γ M (.Call (.Attribute o "split" apos) [e] [] pos) Φ := fun P σ H s m =>
  wpT_of (pe_split pe_wp pe_wp hs hbase hline) ((h P σ H s m).mono fun x H1 ⟨d, M1, P1, ⟨a, hd, hz, h2⟩, e1, m1, i1⟩ => by
    subst hd
    cases i1
    refine ⟨⟨a, rfl⟩, (h2 P1 σ H1 (s.mono e1) m1).mono fun y H2 ⟨d2, M2, P2, ⟨b, hd2, hb, q⟩, e2, m2, i2⟩ => ?_⟩
    subst hd2
    cases i2
    refine ⟨a, b, rfl, rfl, hb, hz, fun p hp => ?_⟩
    obtain ⟨m3, e3⟩ := m2.push (o := .lst ((Txt.split a b).map V.str)) hp
    have hd := isDs_strs (K := X.K) (P := upd P2 p (.lst ((Txt.split a b).map V.str))) (Txt.split a b)
    exact ⟨_, M2, _, q, (e1.trans e2).trans e3, m3, .lst (SqL.of upd_same) hd.1 hd.2⟩)
theorem we_partition (h : WE X Γ M o fun d M1 => ∃ a, d = .str a ∧ a.length ≤ sizeLine ∧ WE X Γ M1 e fun d2 M2 => ∃ b, d2 = .str b ∧ (b.length == 0) = false ∧ Φ (.tup [.str (Txt.partition a b).1, .str (Txt.partition a b).2.1, .str (Txt.partition a b).2.2]) M2) (hs : starEach [e] X.env = [(false, eval e X.env)] := by rfl) (hbase : attributeBase o "partition" X.env (eval o X.env) = eval o X.env := by rfl) (hline : (apos.endLine == pos.line) = true := by rfl) : WE X Γ M (.Call (.Attribute o "partition" apos) [e] [] pos) Φ := fun P σ H s m =>
  wpT_of (pe_partition pe_wp pe_wp hs hbase hline) ((h P σ H s m).mono fun x H1 ⟨d, M1, P1, ⟨a, hd, hz, h2⟩, e1, m1, i1⟩ => by
    subst hd
    cases i1
    refine ⟨⟨a, rfl⟩, (h2 P1 σ H1 (s.mono e1) m1).mono fun y H2 ⟨d2, M2, P2, ⟨b, hd2, hb, q⟩, e2, m2, i2⟩ => ?_⟩
    subst hd2
    cases i2
    refine ⟨a, b, rfl, rfl, hb, hz, fun p hp => ?_⟩
    obtain ⟨m3, e3⟩ := m2.push (o := .tup [.str (Txt.partition a b).1, .str (Txt.partition a b).2.1, .str (Txt.partition a b).2.2]) hp
    have hd := IsDs.cons (K := X.K) (P := upd P2 p (.tup [.str (Txt.partition a b).1, .str (Txt.partition a b).2.1, .str (Txt.partition a b).2.2])) (x := .str (Txt.partition a b).1) .str (.cons (x := .str (Txt.partition a b).2.1) .str (.cons (x := .str (Txt.partition a b).2.2) .str .nil))
    exact ⟨_, M2, _, q, (e1.trans e2).trans e3, m3, .tup (SqT.of upd_same) hd.1 hd.2⟩)
theorem cd_intS {a : Str} {n : Int} (hn : PySem.intText? a = some n) (hz : a.length ≤ 640) (q : Φ (.int n) M) : CaD X (.type "int") [.str a] M Φ := cd_of call_int_str fun P H vs m h => by
  obtain ⟨v, rfl, hv⟩ := h.un1
  cases hv
  exact ⟨a, n, rfl, hn, hz, .one q m .int⟩
theorem cd_strS {z : Str} (q : Φ (.str z) M) : True := trivial
theorem we_slS {lo hi : Option Expr} {p2 : Pos} (h : WE X Γ M e fun d M1 => WO X Γ M1 lo fun i M2 => WO X Γ M2 hi fun j M3 => ∃ z, d = .str z ∧ z.length ≤ sizeLine ∧ Φ (.str (cutS z i j)) M3) : WE X Γ M (.Subscript e (.Slice lo hi none p2) pos) Φ := fun P σ H s m => by
  refine wpT_of (pe_slice sl_str pe_wp (po_wp lo) (po_wp hi)) ((h P σ H s m).mono fun v H1 ⟨d, M1, P1, q, e1, m1, i1⟩ => wo_run q (s.mono e1) m1 fun i M2 P2 H2 q2 e2 m2 => wo_run q2 (s.mono (e1.trans e2)) m2 fun j M3 P3 H3 ⟨z, hd, hz, q3⟩ e3 m3 => ?_)
  subst hd
  cases i1
  exact ⟨z, rfl, hz, _, M3, P3, q3, (e1.trans e2).trans e3, m3, .str⟩
theorem ix_strI {z : Str} {i : Int} {c : Nat} (hz : z.length ≤ sizeLine) (h : atI z.cps.toList i = some c) (q : Φ (.str ⟨#[c]⟩) M) : IxD X (.str z) (.int i) M Φ := fun P H v u m iv iu => by
  cases iv
  cases iu
  exact .inr (.inr ⟨z, i, c, rfl, rfl, hz, h, .one q m .str⟩)
theorem od_catS {x y : Str} (hl : x.length + y.length ≤ sizeLine) (q : Φ (.str (x ++ y)) M) : OpD X (binaryOp .Add) (.str x) (.str y) M Φ := fun P H a b m ia ib => by
  cases ia
  cases ib
  exact opT_of op_add_str ⟨x, y, rfl, rfl, hl, .one q m .str⟩
theorem od_niTS {x : Str} {zs : List Str} (q : Φ (.bl (!decide (x ∈ zs))) M) : OpD X (compareOp .NotIn) (.str x) (.tup (zs.map D.str)) M Φ := fun P H a b m ia ib => by
  cases ia
  cases ib with
  | tup hs hl hi =>
    rw [strs_of ⟨hl, hi⟩] at hs
    exact opT_of op_notIn_seq ⟨_, _, rfl, .inr (Same.tupS m.ex hs), rfl, flat_strs zs, .one (by show Φ (.bl (!inV _ _)) M; rw [inV_strs]; exact q) m .bl⟩
theorem od_inLS {x : Str} {y : D} {zs : List Str} (hy : LstD M y (zs.map D.str)) (q : Φ (.bl (decide (x ∈ zs))) M) : OpD X (compareOp .In) (.str x) y M Φ := fun P H a b m ia ib => by
  cases ia
  obtain ⟨l, xs, rfl, h1, h2⟩ := hy.at_ m ib
  rw [strs_of h2] at h1
  exact opT_of op_in_seq ⟨_, _, rfl, .inl h1, rfl, flat_strs zs, .one (by rw [inV_strs]; exact q) m .bl⟩
theorem od_niLS {x : Str} {y : D} {zs : List Str} (hy : LstD M y (zs.map D.str)) (q : Φ (.bl (!decide (x ∈ zs))) M) : OpD X (compareOp .NotIn) (.str x) y M Φ := fun P H a b m ia ib => by
  cases ia
  obtain ⟨l, xs, rfl, h1, h2⟩ := hy.at_ m ib
  rw [strs_of h2] at h1
  exact opT_of op_notIn_seq ⟨_, _, rfl, .inl h1, rfl, flat_strs zs, .one (by show Φ (.bl (!inV _ _)) M; rw [inV_strs]; exact q) m .bl⟩
end
/-! ### f-strings -/
section
variable {X : Cx} {Γ : Sl} {M : Mem} {Φ : VP} {e v1 v2 : Expr} {rest : List Expr} {pos : Pos}
def WJ (X : Cx) (Γ : Sl) : List Expr → Mem → Str → (Str → Mem → Prop) → Prop
  | [], M, acc, Φ => Φ acc M
  | e :: es, M, acc, Φ => WE X Γ M e fun d M1 => ∃ y : Str, d = .str y ∧ (acc ++ y).length ≤ sizeLine ∧ WJ X Γ es M1 (acc ++ y) Φ
theorem pj_wp : ∀ es : List Expr, PJ X es (es.map (wpT X))
  | [] => .nil
  | e :: es => .cons pe_wp (pj_wp es)
theorem wj_run {P : Hp} {σ : L2.St} : ∀ (es : List Expr) (M : Mem) (acc : Str) (F : Str → Mem → Prop) (P1 H : Hp) (Q : Str → Hp → Prop), WJ X Γ es M acc F → Ex P P1 → SOk X.K Γ P1 σ → MOk X.K M P1 H → (∀ out M2 P2 H2, F out M2 → Ex P P2 → MOk X.K M2 P2 H2 → Q out H2) → tJs (es.map (wpT X)) acc σ H Q
  | [], M, acc, F, P1, H, Q, h, e, s, m, q => q acc M P1 H h e m
  | x :: es, M, acc, F, P1, H, Q, h, e, s, m, q => by
    show wpT X x σ H _
    have h : WE X Γ M x fun d M1 => ∃ y : Str, d = .str y ∧ (acc ++ y).length ≤ sizeLine ∧ WJ X Γ es M1 (acc ++ y) F := h
    refine (h P1 σ H s m).mono fun v H1 ⟨d, M1, P2, ⟨y, hd, hz, h2⟩, e2, m2, i2⟩ => ?_
    subst hd
    cases i2
    exact ⟨y, rfl, hz, wj_run es M1 (acc ++ y) F P2 H1 Q h2 (e.trans e2) (s.mono e2) m2 q⟩
theorem we_joined (h : WJ X Γ (v1 :: v2 :: rest) M Str.empty fun out M1 => Φ (.str out) M1) : WE X Γ M (.JoinedStr (v1 :: v2 :: rest) pos) Φ := fun P σ H s m =>
  wpT_of (pe_joined (pj_wp (v1 :: v2 :: rest))) (wj_run _ M Str.empty _ P H _ h (Same.refl P) s m fun out M2 P2 H2 q e m2 => ⟨_, M2, P2, q, e, m2, .str⟩)
theorem wj_nil {acc : Str} {F : Str → Mem → Prop} (h : F acc M) : WJ X Γ [] M acc F := h
theorem wj_cons {acc : Str} {F : Str → Mem → Prop} {es : List Expr} (h : WE X Γ M e fun d M1 => ∃ y : Str, d = .str y ∧ (acc ++ y).length ≤ sizeLine ∧ WJ X Γ es M1 (acc ++ y) F) : WJ X Γ (e :: es) M acc F := h
theorem we_fmt (h : WE X Γ M e fun d M1 => (∃ y : Str, d = .str y ∧ y.length ≤ sizeLine ∧ Φ (.str y) M1) ∨ ∃ i : Int, d = .int i ∧ i.natAbs.log2 < 1920 ∧ Φ (.str (toString i)) M1) : WE X Γ M (.FormattedValue e (-1) none pos) Φ := fun P σ H s m =>
  wpT_of (pe_fmt pe_wp) ((h P σ H s m).mono fun v H1 ⟨d, M1, P1, q, e1, m1, i1⟩ => by
    rcases q with ⟨y, rfl, hz, q⟩ | ⟨i, rfl, hz, q⟩
    · cases i1
      exact .inl ⟨y, rfl, hz, _, M1, P1, q, e1, m1, .str⟩
    · cases i1
      exact .inr ⟨i, rfl, hz, _, M1, P1, q, e1, m1, .str⟩)
end
end Dt

set_option Elab.async false
set_option linter.all false
set_option maxRecDepth 100000
set_option maxHeartbeats 2000000
/-! Dt, part 37: t[::-1] of a tuple; x in a tuple of data. -/
namespace HT
open PySem PySem.Spec PyProof.Rows
section
variable {prog : Program} {w : World} {A : Around} {E : Value → Shared → Prop} {s : Shared}
theorem adjust_rev (n : Nat) : Builtin.Slice.sliceAdjust none none (-1) (n : Int) = ((n : Int) - 1, -1) := rfl
theorem places_rev (n : Nat) : Builtin.Slice.slicePlaces ((n : Int) - 1) (-1) (-1) = n := by
  unfold Builtin.Slice.slicePlaces
  have h1 : ¬ ((-1 : Int) > 0) := by decide
  simp only [h1, if_false]
  rw [show (- -1 : Int) = 1 from rfl, Int.ediv_one]
  split <;> omega
theorem sliceApplied_rev {sl : Addr} {vl vu vs : Value} {n : Nat} {Q : Int × Int × Nat → Shared → Prop} (hs : s.heap.IsSliceOf sl vl vu vs) (pl : IsPart vl none) (pu : IsPart vu none) (ps : IsPart vs (some (-1)))
    (h : Q ((n : Int) - 1, -1, n) s) : wpAny (model prog w) A (Builtin.Slice.sliceApplied (.ref sl) (pure (n : Int))) Q E s := by
  obtain ⟨os, hos, hcs, hds⟩ := id hs
  unfold Builtin.Slice.sliceApplied Builtin.Slice.sliceFields
  refine wpAny_bind (wpAny_bind (wpAny_field hos hds (x := vl) rfl (wpAny_bind (wpAny_field hos hds (x := vu) rfl (wpAny_bind (wpAny_field hos hds (x := vs) rfl (wpAny_pure ?_)))))))
  refine wpAny_bind (slicePart_ ps ?_)
  show wpAny _ _ (if ((-1 : Int) == 0) = true then _ else _) _ _ s
  rw [if_neg (by decide)]
  refine wpAny_bind (slicePart_ pl (wpAny_bind (slicePart_ pu (wpAny_bind (wpAny_pure ?_)))))
  show wpAny _ _ (match Builtin.Slice.sliceAdjust none none (-1) (n : Int) with | (lo, hi) => pure (lo, (-1 : Int), Builtin.Slice.slicePlaces lo hi (-1))) _ _ s
  rw [adjust_rev n]
  show wpAny _ _ (pure ((n : Int) - 1, (-1 : Int), Builtin.Slice.slicePlaces ((n : Int) - 1) (-1) (-1))) _ _ s
  rw [places_rev]
  exact wpAny_pure h
theorem pick_rev (xs : Array Value) : ((List.range xs.size).filterMap fun (m : Nat) => xs[((xs.size : Int) - 1 + (m : Int) * (-1)).toNat]?).toArray = xs.toList.reverse.toArray := by
  rw [← PySem.W.krv_pick]
  unfold slicePick
  show _ = ((sliceRange ((xs.size : Int) - 1) (-1) (-1)).filterMap (xs[·]?)).toArray
  rw [PySem.W.krv_sliceRange, List.filterMap_map]
  congr 1
  refine congrArg (fun f => List.filterMap f (List.range xs.size)) ?_
  funext m
  show xs[((xs.size : Int) - 1 + (m : Int) * (-1)).toNat]? = xs[xs.size - 1 - m]?
  congr 1
  omega
theorem getItem_tuple_rev {t sl : Addr} {items : Array Value} {vl vu vs : Value} {Q : Value → Shared → Prop} (ht : IsTup s.heap t items) (hs : s.heap.IsSliceOf sl vl vu vs) (pl : IsPart vl none) (pu : IsPart vu none) (ps : IsPart vs (some (-1)))
    (h : Q (.ref s.heap.objs.size) { s with heap := s.heap.push { cls := .type "tuple", data := .seq items.toList.reverse.toArray } })
    (hsz : items.size ≤ sizeLine) : wpAny (model prog w) A (getItem (.ref t) (.ref sl)) Q E s := by
  have htake : sizeOk (.seq items.toList.reverse.toArray) := by
    show items.toList.reverse.toArray.size ≤ sizeLine
    rw [List.size_toArray, List.length_reverse, Array.length_toList]
    exact hsz
  obtain ⟨os, hos, hcs, hds⟩ := id hs
  have hTs : s.TypeIs (.ref sl) "slice" := ⟨os, hos, hcs⟩
  unfold getItem
  try with_reducible refine wpAny_holding ?_
  first | refine wpAny_bind (wpAny_pure ?_) | skip
  refine wpAny_bind (wpAny_sequenceKey ht.typeIs (by decide) ?_)
  refine wpAny_bind (wpAny_callSpecial?_slot (name := Str.ofString "__getitem__") ht.typeIs PyProof.Rows.slot_tuple_getitem
    (wpAny_call_entry PyProof.Rows.slot_tuple_getitem ht.typeIs entry_tuple_getitem ?_ (args_tuple_getitem _ _)))
  show wpAny _ _ (Builtin.Tuple.tupleItemsOf (.ref t) >>= _) _ _ s
  refine wpAny_bind (tupleItemsOf_ ht ?_)
  refine wpAny_bind (wpAny_typeOf hTs ?_)
  rw [if_pos (by decide)]
  refine wpAny_bind (sliceApplied_rev hs pl pu ps ?_)
  have hno : ¬ ((((items.size : Int) - 1) == 0 && (-1 : Int) == 1 && items.size == items.size) = true) := by
    intro q
    rw [Bool.and_eq_true, Bool.and_eq_true] at q
    exact absurd q.1.2 (by decide)
  show wpAny _ _ (if (((items.size : Int) - 1) == 0 && (-1 : Int) == 1 && items.size == items.size) = true then _ else _) _ _ s
  rw [if_neg hno, pick_rev]
  first
    | exact wpAny_bind (m := Builtin.Tuple.tupleExact _) (wpAny_newObj_type (wpAny_pure ⟨_, rfl, wpAny_pure h⟩) htake)
    | exact wpAny_bind (m := Builtin.Tuple.tupleExact _) (wpAny_newObj_type (wpAny_bind (wpAny_pure (wpAny_pure ⟨_, rfl, wpAny_pure h⟩))) htake)
    | exact wpAny_bind (wpAny_bind (m := Builtin.Tuple.tupleExact _) (wpAny_newObj_type (wpAny_pure (wpAny_pure ⟨_, rfl, wpAny_pure h⟩)) htake))
    | exact wpAny_bind (wpAny_bind (m := Builtin.Tuple.tupleExact _) (wpAny_newObj_type (wpAny_pure ⟨_, rfl, wpAny_pure h⟩) htake))
end
end HT
namespace Dt
open PySem PySem.Spec PyProof.Rows L2
section
variable {X : Cx} {Γ : Sl} {M : Mem} {Φ : VP} {e : Expr} {pos : Pos}
def tRevT (K : PySem.W.Frag) (te : TE) : TE := fun σ H Q => te σ H fun x H1 => ∃ a xs, x = .ref a ∧ SqT K H1 a xs ∧ ∀ p, H1 p = none → Q (.ref p) (upd H1 p (.tup xs.reverse))
theorem pe_revT {te : TE} {k : Nat} {p1 p2 p3 : Pos} (he : PE X e te) : PE X (.Subscript e (.Slice none none (some (.UnaryOp .USub (.Constant (.int 1) k p1) p2)) p3) pos) (tRevT X.K te) := by
  refine ⟨fun pins s σ H Q I h => ?_⟩
  refine Subscript_ (thn (he.run pins s σ H _ I h) fun v s1 ⟨x, H1, I1, r1, q1⟩ => ?_)
  obtain ⟨a, xs, ex, hx, q⟩ := q1
  subst ex
  cases r1
  have hst : PO X (some (.UnaryOp .USub (.Constant (.int 1) k p1) p2)) (tPart (tUn (rU fun i => .int (-i)) (tC (.int 1)))) := po_some (pe_un un_neg pe_int)
  refine wpAny_Slice (thn (po_none.run pins s1 σ H1 (fun o H2 => o = none ∧ H2 = H1) I1 ⟨rfl, rfl⟩) fun vl s2 ⟨l, H2, I2, pl, el, e2⟩ => ?_)
  subst el e2
  refine thn (po_none.run pins s2 σ H2 (fun o H3 => o = none ∧ H3 = H2) I2 ⟨rfl, rfl⟩) fun vu s3 ⟨u, H3, I3, pu, eu, e3⟩ => ?_
  subst eu e3
  refine thn (hst.run pins s3 σ H3 (fun o H4 => o = some (-1) ∧ H4 = H3) I3 ⟨1, rfl, -1, rfl, rfl, rfl⟩) fun vs s4 ⟨o, H4, I4, ps, eo, e4⟩ => ?_
  subst eo e4
  have I5 : Inv X pins σ H4 { s4 with heap := s4.heap.push { cls := .type "slice", data := .fields #[vl, vu, vs] } } := I4.kept (t' := s4.toks) fun b ob q => Heap.get?_push_of_some _ q
  obtain ⟨its, r, ht, hz⟩ := I5.tuple hx
  have hlen := r.length
  show wpAny (model X.prog X.w) X.A (subscriptTail e (.Slice none none (some (.UnaryOp .USub (.Constant (.int 1) k p1) p2)) p3) (.ref a) (.ref s4.heap.objs.size)) (EP X pins σ Q) X.xe { s4 with heap := s4.heap.push { cls := .type "slice", data := .fields #[vl, vu, vs] } }
  refine tail_any (ops := [.ref a, .ref s4.heap.objs.size]) ht.typeIs (PyProof.Rows.slot_tuple_getitem.lookup) ?_ (by with_unfolding_all rfl)
  refine HT.getItem_tuple_rev ht (Heap.IsSliceOf.new _ vl vu vs) pl pu ps ?_ (by rw [List.size_toArray]; omega)
  refine ⟨.ref _, _, I5.laid (t' := s4.toks) (o := .tup xs.reverse) (fun b ob q => Heap.get?_push_of_some _ q) (Nat.le_refl _) ?_, rfl, q _ (I5.hok.fresh (Nat.le_refl _))⟩
  exact ⟨by rw [List.length_reverse]; exact hz, _, r.reverse, IsTup.new _ _⟩
theorem we_revT {kk : Nat} {p1 p2 p3 : Pos} (h : WE X Γ M e fun d M1 => ∃ ds, d = .tup ds ∧ Φ (.tup ds.reverse) M1) : WE X Γ M (.Subscript e (.Slice none none (some (.UnaryOp .USub (.Constant (.int 1) kk p1) p2)) p3) pos) Φ := fun P σ H s m => by
  refine wpT_of (pe_revT pe_wp) ((h P σ H s m).mono fun v H1 ⟨d, M1, P1, ⟨ds, hd, q⟩, e1, m1, i1⟩ => ?_)
  subst hd
  cases i1 with
  | @tup a xs _ hs hl hi =>
    refine ⟨a, xs, rfl, Same.tupS m1.ex hs, fun p hp => ?_⟩
    obtain ⟨m3, e3⟩ := m1.push (o := .tup xs.reverse) hp
    refine ⟨_, M1, _, q, e1.trans e3, m3, .tup (SqT.of upd_same) (by rw [List.length_reverse, List.length_reverse, hl]) fun i x d a b => ?_⟩
    have hb : i < xs.length := by
      have := (List.getElem?_eq_some_iff.mp a).1
      rwa [List.length_reverse] at this
    rw [List.getElem?_reverse hb] at a
    rw [List.getElem?_reverse (by rw [← hl]; exact hb), ← hl] at b
    exact (hi _ x d a b).mono e3
/-- x in t, t a tuple of data -/
def rInT (K : PySem.W.Frag) : R2 := fun x y H Q => ∃ d ds, Dp K H x d ∧ Dp K H y (.tuple ds) ∧ SeqAt.shaped d = true ∧ SeqAt.shaped (.tuple ds) = true ∧ Q (.bl (ds.any fun z => PyData.eqv z d)) H
def rNotInT (K : PySem.W.Frag) : R2 := fun x y H Q => ∃ d ds, Dp K H x d ∧ Dp K H y (.tuple ds) ∧ SeqAt.shaped d = true ∧ SeqAt.shaped (.tuple ds) = true ∧ Q (.bl (!ds.any fun z => PyData.eqv z d)) H
theorem op_inTD (hu : X.A.units + 65 < cLine) : OpR X (compareOp .In) (rInT X.K) := by
  intro pins s σ H x y v u Q I rx ry h
  obtain ⟨d, ds, hd, he, sd, se, q⟩ := h
  obtain ⟨as, r1⟩ := Dp.reads I d x v hd rx
  obtain ⟨bs, r2⟩ := Dp.reads I (.tuple ds) y u he ry
  exact SeqAt.in_tuple_reads r2 r1 (SeqAt.canLay_of_shaped se) (SeqAt.canLay_of_shaped sd) (room_in_shaped sd hu) ⟨.bl _, H, I, rfl, q⟩
theorem op_notInTD (hu : X.A.units + 65 < cLine) : OpR X (compareOp .NotIn) (rNotInT X.K) := by
  intro pins s σ H x y v u Q I rx ry h
  obtain ⟨d, ds, hd, he, sd, se, q⟩ := h
  obtain ⟨as, r1⟩ := Dp.reads I d x v hd rx
  obtain ⟨bs, r2⟩ := Dp.reads I (.tuple ds) y u he ry
  exact SeqAt.notIn_tuple_reads r2 r1 (SeqAt.canLay_of_shaped se) (SeqAt.canLay_of_shaped sd) (room_in_shaped sd hu) ⟨.bl _, H, I, rfl, q⟩
theorem od_inTD {x : D} {ys : List D} (hu : X.A.units + 65 < cLine) (hx : shp x = true) (hy : shp (.tup ys) = true) (q : Φ (.bl ((pys ys).any fun z => PyData.eqv z (py x))) M) : OpD X (compareOp .In) x (.tup ys) M Φ := fun P H a b m ia ib => by
  obtain ⟨h1, h2⟩ := Bool.and_eq_true_iff.mp hx
  obtain ⟨h3, h4⟩ := Bool.and_eq_true_iff.mp hy
  exact opT_of (op_inTD hu) ⟨_, _, dp_of m.ex _ _ h1 ia, dp_of m.ex _ _ h3 ib, h2, h4, .one q m .bl⟩
theorem od_niTD {x : D} {ys : List D} (hu : X.A.units + 65 < cLine) (hx : shp x = true) (hy : shp (.tup ys) = true) (q : Φ (.bl (!(pys ys).any fun z => PyData.eqv z (py x))) M) : OpD X (compareOp .NotIn) x (.tup ys) M Φ := fun P H a b m ia ib => by
  obtain ⟨h1, h2⟩ := Bool.and_eq_true_iff.mp hx
  obtain ⟨h3, h4⟩ := Bool.and_eq_true_iff.mp hy
  exact opT_of (op_notInTD hu) ⟨_, _, dp_of m.ex _ _ h1 ia, dp_of m.ex _ _ h3 ib, h2, h4, .one q m .bl⟩
theorem shp_pt (ps : List (Int × Int)) : shp (.tup (ps.map pD)) = true := shp_ps ps
theorem od_inPT {p : Int × Int} {bs : List (Int × Int)} (hu : X.A.units + 65 < cLine) (q : Φ (.bl (decide (p ∈ bs))) M) : OpD X (compareOp .In) (pD p) (.tup (bs.map pD)) M Φ := od_inTD hu (shp_p p) (shp_pt bs) (by rw [any_ps]; exact q)
theorem eqv_pt (as bs : List (Int × Int)) : PyData.eqv (py (.tup (as.map pD))) (py (.tup (bs.map pD))) = decide (as = bs) := eqv_pys as bs
end
end Dt

set_option Elab.async false
set_option linter.all false
set_option maxRecDepth 100000
set_option maxHeartbeats 2000000
/-! Dt, part 38: comprehensions with any target of names, as an expression and as a statement name = [..]. -/
namespace Dt
open PySem PySem.Spec PyProof.Rows L2
/-- what a target does to the slots -/
def TgOk (K : PySem.W.Frag) (vs : List Nat) (g : TG) (F : Sl → D → Sl) (fits : D → Prop) : Prop := ∀ (P : Hp) (σ : L2.St) (H : Hp) (Γ : Sl) (y : D) (v : V) (Q : L2.St → Hp → Prop), Ex P H → SOk K Γ P σ → IsD K P v y → fits y → (∀ σ2, SOk K (F Γ y) P σ2 → wipe σ2 vs = wipe σ vs → Q σ2 H) → g v σ H Q
theorem tg_name {K : PySem.W.Frag} {vs : List Nat} {j : Nat} (hj : j ∈ vs) : TgOk K vs (gName j) (fun Γ y => Γ.set j (some y)) (fun _ => True) := fun P σ H Γ y v Q e s i _ q => q _ (s.set i) (wipe_set hj)
def setN (Γ : Sl) : List Nat → List D → Sl
  | j :: js, d :: ds => setN (Γ.set j (some d)) js ds
  | _, _ => Γ
def setT (js : List Nat) (Γ : Sl) : D → Sl
  | .tup ys => setN Γ js ys
  | _ => Γ
@[reducible] def gNs : List Nat → TGs
  | [] => gNil
  | j :: js => gCons (gName j) (gNs js)
theorem gns_run {K : PySem.W.Frag} {vs : List Nat} {P H : Hp} {Q : L2.St → Hp → Prop} {σ0 : L2.St} : ∀ (js : List Nat) (us : List V) (ys : List D) (σ : L2.St) (Γ : Sl), (∀ j, j ∈ js → j ∈ vs) → IsDs K P us ys → ys.length = js.length → SOk K Γ P σ → wipe σ vs = wipe σ0 vs → (∀ σ2, SOk K (setN Γ js ys) P σ2 → wipe σ2 vs = wipe σ0 vs → Q σ2 H) → gNs js us σ H Q
  | [], us, ys, σ, Γ, hj, i, hl, s, w, q => by
    have : ys = [] := List.length_eq_zero_iff.mp hl
    subst this
    exact ⟨i.unnil, q σ s w⟩
  | j :: js, us, [], σ, Γ, hj, i, hl, s, w, q => by cases hl
  | j :: js, us, y :: ys, σ, Γ, hj, i, hl, s, w, q => by
    obtain ⟨u, r, rfl, hu, hr⟩ := i.uncons
    exact ⟨u, r, rfl, gns_run js r ys (σ.set j (some u)) (Γ.set j (some y)) (fun j h => hj j (List.mem_cons_of_mem _ h)) hr (by simpa using hl) (s.set hu) ((wipe_set (hj j List.mem_cons_self)).trans w) q⟩
theorem tg_tup {K : PySem.W.Frag} {vs js : List Nat} (hj : ∀ j, j ∈ js → j ∈ vs) : TgOk K vs (gTup K js.length (gNs js)) (setT js) (fun y => ∃ ys, y = .tup ys ∧ ys.length = js.length) := fun P σ H Γ y v Q e s i ⟨ys, hy, hl⟩ q => by
  subst hy
  cases i with
  | @tup a us _ hs hl2 hi => exact ⟨a, us, rfl, Same.tupS e hs, by rw [hl2]; exact hl, gns_run js us ys σ Γ hj ⟨hl2, hi⟩ hl s rfl q⟩
section
variable {X : Cx} {Γ : Sl} {M : Mem} {Φ : VP} {Ψ : Po} {elt iter tgt : Expr} {ifs : List Expr} {scope : Scope} {own : List (Str × Nat)} {pos spos py : Pos} {sts : List Stmt} {y : Str} {g : TG} {F : Sl → D → Sl} {fits : D → Prop}
abbrev StepG (X : Cx) (scope : Scope) (own : List (Str × Nat)) (ifs : List Expr) (elt : Expr) (F : Sl → D → Sl) (fits : D → Prop) (Γ : Sl) (xs : List D) (J : Nat → List D → Mem → Prop) : Prop := ∀ (i : Nat) (y : D) (l : Addr) (out : List D) (M' : Mem), xs[i]? = some y → J i out M' → fits y ∧ Turn1 X scope ifs elt (J (i + 1)) (F (wipeD Γ (own.map (·.2))) y) l out M'
theorem lcL_core {R : Addr → List D → Mem → Prop} (tg : TgOk X.K (own.map (·.2)) g F fits) (h : WE X Γ M iter fun d M1 => ∃ (J : Nat → List D → Mem → Prop) (xs : List D), d = .lst xs ∧ J 0 [] M1 ∧ StepG X scope own ifs elt F fits Γ xs J ∧ ∀ l out M', J xs.length out M' → R l out M')
    {P H : Hp} {σ : L2.St} {Q : VK} (s : SOk X.K Γ P σ) (m : MOk X.K M P H) (q : ∀ l out M' P' H', R l out M' → Ex P P' → MOk X.K ((l, .lst out) :: M') P' H' → Q (.ref l) H') : tLc (iList X.K (wpT X iter)) g (tsB X scope ifs) (teB X scope elt) (own.map (·.2)) σ H Q := by
  refine (h P σ H s m).mono fun v H1 ⟨d, M1, P1, ⟨J, xs, hd, j0, hstep, hdone⟩, e1, m1, i1⟩ => ?_
  subst hd
  cases i1 with
  | @lst a vs _ hq hl hi =>
    refine ⟨a, rfl, ⟨vs, m1.ex.seq hq⟩, fun l hn => lc_list (xs := vs) (fun i => LcInv X.K P1 l (J i)) ⟨[], M1, P1, j0, Same.refl P1, m1.own hn ⟨[], upd_same, .nil⟩⟩ (fun i H' _ ⟨out, M', P', jj, e', m'⟩ => (m'.ex.seq (e'.seq hq))) ?_ ?_⟩
    · rintro i x0 H' hx ⟨out, M', P', jj, e', m'⟩
      obtain ⟨y, hy, iy⟩ := IsDs.getV (K := X.K) (P := P1) ⟨hl, hi⟩ hx
      obtain ⟨hf, ht⟩ := hstep i y l out M' hy jj
      refine tg P' _ H' _ y x0 _ m'.ex (sok_wipe (s.mono (e1.trans e')) (own.map (·.2))) (iy.mono e') hf fun σ2 s2 w2 => ⟨by rw [w2, wipe_wipe], lc_turn ht e' s2 m'⟩
    · rintro H' ⟨out, M', P', jj, e', m'⟩
      exact q l out M' P' H' (hdone l out M' (by rw [← hl]; exact jj)) (e1.trans e') m'
theorem lcT_core {R : Addr → List D → Mem → Prop} (tg : TgOk X.K (own.map (·.2)) g F fits) (h : WE X Γ M iter fun d M1 => ∃ (J : Nat → List D → Mem → Prop) (xs : List D), d = .tup xs ∧ J 0 [] M1 ∧ StepG X scope own ifs elt F fits Γ xs J ∧ ∀ l out M', J xs.length out M' → R l out M')
    {P H : Hp} {σ : L2.St} {Q : VK} (s : SOk X.K Γ P σ) (m : MOk X.K M P H) (q : ∀ l out M' P' H', R l out M' → Ex P P' → MOk X.K ((l, .lst out) :: M') P' H' → Q (.ref l) H') : tLc (iTup X.K (wpT X iter)) g (tsB X scope ifs) (teB X scope elt) (own.map (·.2)) σ H Q := by
  refine (h P σ H s m).mono fun v H1 ⟨d, M1, P1, ⟨J, xs, hd, j0, hstep, hdone⟩, e1, m1, i1⟩ => ?_
  subst hd
  cases i1 with
  | @tup a vs _ hq hl hi =>
    refine ⟨a, rfl, ⟨vs, Same.tupS m1.ex hq⟩, fun l hn => lc_tup (xs := vs) (fun i => LcInv X.K P1 l (J i)) ⟨[], M1, P1, j0, Same.refl P1, m1.own hn ⟨[], upd_same, .nil⟩⟩ (fun i H' _ ⟨out, M', P', jj, e', m'⟩ => Same.tupS m'.ex (Same.tupS e' hq)) ?_ ?_⟩
    · rintro i x0 H' hx ⟨out, M', P', jj, e', m'⟩
      obtain ⟨y, hy, iy⟩ := IsDs.getV (K := X.K) (P := P1) ⟨hl, hi⟩ hx
      obtain ⟨hf, ht⟩ := hstep i y l out M' hy jj
      refine tg P' _ H' _ y x0 _ m'.ex (sok_wipe (s.mono (e1.trans e')) (own.map (·.2))) (iy.mono e') hf fun σ2 s2 w2 => ⟨by rw [w2, wipe_wipe], lc_turn ht e' s2 m'⟩
    · rintro H' ⟨out, M', P', jj, e', m'⟩
      exact q l out M' P' H' (hdone l out M' (by rw [← hl]; exact jj)) (e1.trans e') m'
/-- [elt for tgt in lst if ..] -/
theorem we_genL (hN : X.N.Nodup) (tg : TgOk X.K (own.map (·.2)) g F fits) (h : WE X Γ M iter fun d M1 => ∃ (J : Nat → List D → Mem → Prop) (xs : List D), d = .lst xs ∧ J 0 [] M1 ∧ StepG X scope own ifs elt F fits Γ xs J ∧ ∀ l out M', J xs.length out M' → Φ (.adr l) ((l, .lst out) :: M'))
    (ok : BlkOk X.N X.env.scope scope own) (hg : ∀ (s : Shared) (H : Hp) (C : Addr) (cl : List (Str × Addr)) (fp : List Addr), PG (X.blk s H scope (compEnvC scope cl C X.env) fp) tgt g) (hc : X.calm = true := by rfl) (hs : ∀ x, foldedSetIterable iter X.env x = pure x := by intro _; rfl) : WE X Γ M (.ListComp elt [⟨tgt, iter, ifs, 0⟩] scope pos) Φ := fun P σ H s m =>
  wpT_of (pe_lc (tt := tsB X scope ifs) (te := teB X scope elt) hc hN (pi_list pe_wp) ok hg (fun s0 H0 C cl fp => ⟨fun pins sh σ' H' Q I q => q s0 H0 C cl fp pins sh I⟩) (fun s0 H0 C cl fp => ⟨fun pins sh σ' H' Q I q => q s0 H0 C cl fp pins sh I⟩) hs)
    (lcL_core (R := fun l out M' => Φ (.adr l) ((l, .lst out) :: M')) tg h s m fun l out M' P' H' r e m' => ⟨_, _, P', r, e, m', .adr⟩)
theorem we_genT (hN : X.N.Nodup) (tg : TgOk X.K (own.map (·.2)) g F fits) (h : WE X Γ M iter fun d M1 => ∃ (J : Nat → List D → Mem → Prop) (xs : List D), d = .tup xs ∧ J 0 [] M1 ∧ StepG X scope own ifs elt F fits Γ xs J ∧ ∀ l out M', J xs.length out M' → Φ (.adr l) ((l, .lst out) :: M'))
    (ok : BlkOk X.N X.env.scope scope own) (hg : ∀ (s : Shared) (H : Hp) (C : Addr) (cl : List (Str × Addr)) (fp : List Addr), PG (X.blk s H scope (compEnvC scope cl C X.env) fp) tgt g) (hc : X.calm = true := by rfl) (hs : ∀ x, foldedSetIterable iter X.env x = pure x := by intro _; rfl) : WE X Γ M (.ListComp elt [⟨tgt, iter, ifs, 0⟩] scope pos) Φ := fun P σ H s m =>
  wpT_of (pe_lc (tt := tsB X scope ifs) (te := teB X scope elt) hc hN (pi_tup pe_wp) ok hg (fun s0 H0 C cl fp => ⟨fun pins sh σ' H' Q I q => q s0 H0 C cl fp pins sh I⟩) (fun s0 H0 C cl fp => ⟨fun pins sh σ' H' Q I q => q s0 H0 C cl fp pins sh I⟩) hs)
    (lcT_core (R := fun l out M' => Φ (.adr l) ((l, .lst out) :: M')) tg h s m fun l out M' P' H' r e m' => ⟨_, _, P', r, e, m', .adr⟩)
/-- y = [elt for tgt in lst if ..] -/
theorem ws_genL (iy : Nat) (hN : X.N.Nodup) (tg : TgOk X.K (own.map (·.2)) g F fits) (h : WE X Γ M iter fun d M1 => ∃ (J : Nat → List D → Mem → Prop) (xs : List D), d = .lst xs ∧ J 0 [] M1 ∧ StepG X scope own ifs elt F fits Γ xs J ∧ ∀ l out M', J xs.length out M' → WS X (Γ.set iy (some (.adr l))) ((l, .lst out) :: M') sts Ψ)
    (ok : BlkOk X.N X.env.scope scope own) (hg : ∀ (s : Shared) (H : Hp) (C : Addr) (cl : List (Str × Addr)) (fp : List Addr), PG (X.blk s H scope (compEnvC scope cl C X.env) fp) tgt g)
    (hsw : swapsWith (.ListComp elt [⟨tgt, iter, ifs, 0⟩] scope pos) (some (.Name y py)) spos.line X.env = pure true := by exact sw_true rfl rfl rfl (by decide +kernel)) (hc : X.calm = true := by rfl) (hy : X.N[iy]? = some y := by rfl) (hyl : X.env.scope.names.lookup y = some .local := by rfl) (hs : ∀ x, foldedSetIterable iter X.env x = pure x := by intro _; rfl) : WS X Γ M (.Assign [.Name y py] (.ListComp elt [⟨tgt, iter, ifs, 0⟩] scope pos) spos :: sts) Ψ := ws_cons fun P σ H s m =>
  wpS_of (ps_setLc (i := iy) (tt := tsB X scope ifs) (te := teB X scope elt) hc hN hy hyl hsw (pi_list pe_wp) ok hg (fun s0 H0 C cl fp => ⟨fun pins sh σ' H' Q I q => q s0 H0 C cl fp pins sh I⟩) (fun s0 H0 C cl fp => ⟨fun pins sh σ' H' Q I q => q s0 H0 C cl fp pins sh I⟩) hs)
    (lcL_core (R := fun l out M' => WS X (Γ.set iy (some (.adr l))) ((l, .lst out) :: M') sts Ψ) tg h s m fun l out M' P' H' r e m' => ⟨_, _, P', r, e, (s.mono e).set .adr, m'⟩)
theorem ws_genT (iy : Nat) (hN : X.N.Nodup) (tg : TgOk X.K (own.map (·.2)) g F fits) (h : WE X Γ M iter fun d M1 => ∃ (J : Nat → List D → Mem → Prop) (xs : List D), d = .tup xs ∧ J 0 [] M1 ∧ StepG X scope own ifs elt F fits Γ xs J ∧ ∀ l out M', J xs.length out M' → WS X (Γ.set iy (some (.adr l))) ((l, .lst out) :: M') sts Ψ)
    (ok : BlkOk X.N X.env.scope scope own) (hg : ∀ (s : Shared) (H : Hp) (C : Addr) (cl : List (Str × Addr)) (fp : List Addr), PG (X.blk s H scope (compEnvC scope cl C X.env) fp) tgt g)
    (hsw : swapsWith (.ListComp elt [⟨tgt, iter, ifs, 0⟩] scope pos) (some (.Name y py)) spos.line X.env = pure true := by exact sw_true rfl rfl rfl (by decide +kernel)) (hc : X.calm = true := by rfl) (hy : X.N[iy]? = some y := by rfl) (hyl : X.env.scope.names.lookup y = some .local := by rfl) (hs : ∀ x, foldedSetIterable iter X.env x = pure x := by intro _; rfl) : WS X Γ M (.Assign [.Name y py] (.ListComp elt [⟨tgt, iter, ifs, 0⟩] scope pos) spos :: sts) Ψ := ws_cons fun P σ H s m =>
  wpS_of (ps_setLc (i := iy) (tt := tsB X scope ifs) (te := teB X scope elt) hc hN hy hyl hsw (pi_tup pe_wp) ok hg (fun s0 H0 C cl fp => ⟨fun pins sh σ' H' Q I q => q s0 H0 C cl fp pins sh I⟩) (fun s0 H0 C cl fp => ⟨fun pins sh σ' H' Q I q => q s0 H0 C cl fp pins sh I⟩) hs)
    (lcT_core (R := fun l out M' => WS X (Γ.set iy (some (.adr l))) ((l, .lst out) :: M') sts Ψ) tg h s m fun l out M' P' H' r e m' => ⟨_, _, P', r, e, (s.mono e).set .adr, m'⟩)
/-- what a comprehension's parts come to, item by item, with memory as it is -/
structure CompG (X : Cx) (Γ : Sl) (scope : Scope) (own : List (Str × Nat)) (F : Sl → D → Sl) (fits : D → Prop) (ifs : List Expr) (elt : Expr) {α : Type} (as : List α) (f : α → D) (p : α → Bool) (gd : α → D) (M1 : Mem) : Prop where
  len : as.length < sizeLine
  fit : ∀ a, a ∈ as → fits (f a)
  test : ∀ a, a ∈ as → ∀ l out s H C cl fp, WTs (blkOf X scope s H C cl fp) (F (wipeD Γ (own.map (·.2))) (f a)) ((l, .lst out) :: M1) ifs fun k M2 => k = p a ∧ M2 = (l, .lst out) :: M1
  item : ∀ a, a ∈ as → p a = true → ∀ l out s H C cl fp, WE (blkOf X scope s H C cl fp) (F (wipeD Γ (own.map (·.2))) (f a)) ((l, .lst out) :: M1) elt fun z M2 => z = gd a ∧ M2 = (l, .lst out) :: M1
theorem comp_step {α : Type} {as : List α} {f : α → D} {p : α → Bool} {gd : α → D} {M1 : Mem} (h : CompG X Γ scope own F fits ifs elt as f p gd M1) : StepG X scope own ifs elt F fits Γ (as.map f) (fun i out M' => out = ((as.take i).filter p).map gd ∧ M' = M1) := by
  rintro i y l out M' hy ⟨rfl, rfl⟩
  obtain ⟨a, ha, rfl⟩ := getMap hy
  have hm := List.mem_of_getElem? ha
  have hi := (List.getElem?_eq_some_iff.mp ha).1
  refine ⟨h.fit a hm, fun s H C cl fp P σ H2 so mo => ?_⟩
  refine (show WTs _ _ _ ifs _ from ?_) P σ H2 so mo
  have h1 := h.test a hm l (((as.take i).filter p).map gd) s H C cl fp
  refine fun P σ H2 so mo pins sh I => thn (h1 P σ H2 so mo pins sh I) fun b s' ⟨H', I', M2, P2, ⟨hk, hM⟩, e2, m2⟩ => ⟨H', I', M2, P2, ⟨fun hb s H C cl fp => ?_, fun hb => ?_⟩, e2, m2⟩
  · subst hM
    rw [hk] at hb
    refine (h.item a hm hb l _ s H C cl fp).mono fun z M3 ⟨hz, hM3⟩ => ⟨M', hM3, ?_, ?_, rfl⟩
    · have := List.length_filter_le p (as.take i)
      have hl := h.len
      rw [List.length_map]
      rw [List.length_take] at this
      omega
    · rw [take_1 ha, List.filter_append, List.filter_cons, hb, List.map_append, hz]
      rfl
  · subst hM
    rw [hk] at hb
    refine ⟨M', rfl, ?_, rfl⟩
    rw [take_1 ha, List.filter_append, List.filter_cons, hb]
    simp
theorem we_mapL (hN : X.N.Nodup) (tg : TgOk X.K (own.map (·.2)) g F fits) (h : WE X Γ M iter fun d M1 => ∃ (α : Type) (as : List α) (f : α → D) (p : α → Bool) (gd : α → D), d = .lst (as.map f) ∧ CompG X Γ scope own F fits ifs elt as f p gd M1 ∧ ∀ l, Φ (.adr l) ((l, .lst ((as.filter p).map gd)) :: M1))
    (ok : BlkOk X.N X.env.scope scope own) (hg : ∀ (s : Shared) (H : Hp) (C : Addr) (cl : List (Str × Addr)) (fp : List Addr), PG (X.blk s H scope (compEnvC scope cl C X.env) fp) tgt g) (hc : X.calm = true := by rfl) (hs : ∀ x, foldedSetIterable iter X.env x = pure x := by intro _; rfl) : WE X Γ M (.ListComp elt [⟨tgt, iter, ifs, 0⟩] scope pos) Φ :=
  we_genL hN tg (h.mono fun d M1 ⟨α, as, f, p, gd, hd, hp, q⟩ => ⟨_, as.map f, hd, ⟨rfl, rfl⟩, comp_step hp, fun l out M' ⟨ho, hM⟩ => by
    subst ho hM
    rw [List.length_map, List.take_length]
    exact q l⟩) ok hg hc hs
theorem we_mapT (hN : X.N.Nodup) (tg : TgOk X.K (own.map (·.2)) g F fits) (h : WE X Γ M iter fun d M1 => ∃ (α : Type) (as : List α) (f : α → D) (p : α → Bool) (gd : α → D), d = .tup (as.map f) ∧ CompG X Γ scope own F fits ifs elt as f p gd M1 ∧ ∀ l, Φ (.adr l) ((l, .lst ((as.filter p).map gd)) :: M1))
    (ok : BlkOk X.N X.env.scope scope own) (hg : ∀ (s : Shared) (H : Hp) (C : Addr) (cl : List (Str × Addr)) (fp : List Addr), PG (X.blk s H scope (compEnvC scope cl C X.env) fp) tgt g) (hc : X.calm = true := by rfl) (hs : ∀ x, foldedSetIterable iter X.env x = pure x := by intro _; rfl) : WE X Γ M (.ListComp elt [⟨tgt, iter, ifs, 0⟩] scope pos) Φ :=
  we_genT hN tg (h.mono fun d M1 ⟨α, as, f, p, gd, hd, hp, q⟩ => ⟨_, as.map f, hd, ⟨rfl, rfl⟩, comp_step hp, fun l out M' ⟨ho, hM⟩ => by
    subst ho hM
    rw [List.length_map, List.take_length]
    exact q l⟩) ok hg hc hs
theorem ws_mapL (iy : Nat) (hN : X.N.Nodup) (tg : TgOk X.K (own.map (·.2)) g F fits) (h : WE X Γ M iter fun d M1 => ∃ (α : Type) (as : List α) (f : α → D) (p : α → Bool) (gd : α → D), d = .lst (as.map f) ∧ CompG X Γ scope own F fits ifs elt as f p gd M1 ∧ ∀ l, WS X (Γ.set iy (some (.adr l))) ((l, .lst ((as.filter p).map gd)) :: M1) sts Ψ)
    (ok : BlkOk X.N X.env.scope scope own) (hg : ∀ (s : Shared) (H : Hp) (C : Addr) (cl : List (Str × Addr)) (fp : List Addr), PG (X.blk s H scope (compEnvC scope cl C X.env) fp) tgt g)
    (hsw : swapsWith (.ListComp elt [⟨tgt, iter, ifs, 0⟩] scope pos) (some (.Name y py)) spos.line X.env = pure true := by exact sw_true rfl rfl rfl (by decide +kernel)) (hc : X.calm = true := by rfl) (hy : X.N[iy]? = some y := by rfl) (hyl : X.env.scope.names.lookup y = some .local := by rfl) (hs : ∀ x, foldedSetIterable iter X.env x = pure x := by intro _; rfl) : WS X Γ M (.Assign [.Name y py] (.ListComp elt [⟨tgt, iter, ifs, 0⟩] scope pos) spos :: sts) Ψ :=
  ws_genL iy hN tg (h.mono fun d M1 ⟨α, as, f, p, gd, hd, hp, q⟩ => ⟨_, as.map f, hd, ⟨rfl, rfl⟩, comp_step hp, fun l out M' ⟨ho, hM⟩ => by
    subst ho hM
    rw [List.length_map, List.take_length]
    exact q l⟩) ok hg hsw hc hy hyl hs
theorem ws_mapT (iy : Nat) (hN : X.N.Nodup) (tg : TgOk X.K (own.map (·.2)) g F fits) (h : WE X Γ M iter fun d M1 => ∃ (α : Type) (as : List α) (f : α → D) (p : α → Bool) (gd : α → D), d = .tup (as.map f) ∧ CompG X Γ scope own F fits ifs elt as f p gd M1 ∧ ∀ l, WS X (Γ.set iy (some (.adr l))) ((l, .lst ((as.filter p).map gd)) :: M1) sts Ψ)
    (ok : BlkOk X.N X.env.scope scope own) (hg : ∀ (s : Shared) (H : Hp) (C : Addr) (cl : List (Str × Addr)) (fp : List Addr), PG (X.blk s H scope (compEnvC scope cl C X.env) fp) tgt g)
    (hsw : swapsWith (.ListComp elt [⟨tgt, iter, ifs, 0⟩] scope pos) (some (.Name y py)) spos.line X.env = pure true := by exact sw_true rfl rfl rfl (by decide +kernel)) (hc : X.calm = true := by rfl) (hy : X.N[iy]? = some y := by rfl) (hyl : X.env.scope.names.lookup y = some .local := by rfl) (hs : ∀ x, foldedSetIterable iter X.env x = pure x := by intro _; rfl) : WS X Γ M (.Assign [.Name y py] (.ListComp elt [⟨tgt, iter, ifs, 0⟩] scope pos) spos :: sts) Ψ :=
  ws_genT iy hN tg (h.mono fun d M1 ⟨α, as, f, p, gd, hd, hp, q⟩ => ⟨_, as.map f, hd, ⟨rfl, rfl⟩, comp_step hp, fun l out M' ⟨ho, hM⟩ => by
    subst ho hM
    rw [List.length_map, List.take_length]
    exact q l⟩) ok hg hsw hc hy hyl hs
end
end Dt

set_option Elab.async false
set_option linter.all false
set_option maxRecDepth 100000
set_option maxHeartbeats 2000000
/-! Dt, part 39: ordered cells, in plain words; data without lists. -/
namespace Dt
open PySem PySem.Spec PyProof.Rows L2
def lexP (a b : Int × Int) : Prop := a.1 < b.1 ∨ (a.1 = b.1 ∧ a.2 < b.2)
theorem mem_ordF {c : Int × Int} {cs : List (Int × Int)} : c ∈ ordF cs ↔ c ∈ cs := by
  unfold ordF
  rw [List.mem_flatMap]
  constructor
  · rintro ⟨x, hx, h⟩
    obtain ⟨y, hy, rfl⟩ := List.mem_map.mp h
    rw [mem_sortU] at hy
    obtain ⟨d, hd, e⟩ := List.mem_map.mp hy
    obtain ⟨h1, h2⟩ := List.mem_filter.mp hd
    have h2 := of_decide_eq_true h2
    obtain ⟨p, q⟩ := d
    simp only at e h2
    subst e h2
    exact h1
  · intro h
    refine ⟨c.1, by rw [mem_sortU]; exact List.mem_map_of_mem h, List.mem_map.mpr ⟨c.2, ?_, rfl⟩⟩
    rw [mem_sortU]
    exact List.mem_map_of_mem (f := Prod.snd) (List.mem_filter.mpr ⟨h, decide_eq_true rfl⟩)
theorem pw_ordF (cs : List (Int × Int)) : (ordF cs).Pairwise lexP := by
  unfold ordF
  rw [List.pairwise_flatMap]
  constructor
  · intro x _
    rw [List.pairwise_map]
    exact (pw_sortU _).imp fun h => .inr ⟨rfl, h⟩
  · refine (pw_sortU _).imp fun {x y} h a ha b hb => ?_
    obtain ⟨_, _, rfl⟩ := List.mem_map.mp ha
    obtain ⟨_, _, rfl⟩ := List.mem_map.mp hb
    exact .inl h
theorem lexP_irr (a : Int × Int) : ¬ lexP a a := by
  unfold lexP
  omega
theorem lexP_asy {a b : Int × Int} (h : lexP a b) (q : lexP b a) : False := by
  unfold lexP at h q
  omega
theorem lex_eq : ∀ (as bs : List (Int × Int)), as.Pairwise lexP → bs.Pairwise lexP → (∀ c, c ∈ as ↔ c ∈ bs) → as = bs
  | [], [], _, _, _ => rfl
  | [], b :: bs, _, _, h => by
    have := (h b).mpr List.mem_cons_self
    cases this
  | a :: as, [], _, _, h => by
    have := (h a).mp List.mem_cons_self
    cases this
  | a :: as, b :: bs, h1, h2, h => by
    obtain ⟨a1, a2⟩ := List.pairwise_cons.mp h1
    obtain ⟨b1, b2⟩ := List.pairwise_cons.mp h2
    have e : a = b := by
      rcases List.mem_cons.mp ((h a).mp List.mem_cons_self) with e | e
      · exact e
      · rcases List.mem_cons.mp ((h b).mpr List.mem_cons_self) with f | f
        · exact f.symm
        · exact (lexP_asy (a1 b f) (b1 a e)).elim
    subst e
    congr 1
    refine lex_eq as bs a2 b2 fun c => ⟨fun hc => ?_, fun hc => ?_⟩
    · rcases List.mem_cons.mp ((h c).mp (List.mem_cons_of_mem _ hc)) with e | e
      · subst e
        exact (lexP_irr _ (a1 _ hc)).elim
      · exact e
    · rcases List.mem_cons.mp ((h c).mpr (List.mem_cons_of_mem _ hc)) with e | e
      · subst e
        exact (lexP_irr _ (b1 _ hc)).elim
      · exact e
theorem ordF_self {L : List (Int × Int)} (h : L.Pairwise lexP) : ordF L = L := lex_eq _ _ (pw_ordF L) h fun c => mem_ordF
theorem ordF_congr {as bs : List (Int × Int)} (h : ∀ c, c ∈ as ↔ c ∈ bs) : ordF as = ordF bs := lex_eq _ _ (pw_ordF as) (pw_ordF bs) fun c => by rw [mem_ordF, mem_ordF, h]
theorem ordF_rev {cs : List (Int × Int)} : ordF (ordF cs).reverse = ordF cs := ordF_congr fun c => by rw [List.mem_reverse, mem_ordF]
theorem sum_le {f g : Int → Nat} (h : ∀ x, f x ≤ g x) : ∀ xs : List Int, (xs.map f).sum ≤ (xs.map g).sum
  | [] => Nat.le_refl _
  | x :: xs => by
    rw [List.map_cons, List.map_cons, List.sum_cons, List.sum_cons]
    have := h x
    have := sum_le h xs
    omega
theorem ordF_len {cs : List (Int × Int)} : (ordF cs).length ≤ cs.length := by
  unfold ordF
  rw [List.length_flatMap]
  refine Nat.le_trans (sum_le (g := fun x => (cs.filter fun c => decide (c.1 = x)).length) (fun x => ?_) _) (sum_filter cs _ (pw_sortU _))
  rw [List.length_map]
  have := sortU_len ((cs.filter fun c => decide (c.1 = x)).map (·.2))
  rw [List.length_map] at this
  exact this
theorem lex_nodup {L : List (Int × Int)} (h : L.Pairwise lexP) : L.Nodup := h.imp fun {a b} q e => by
  subst e
  exact lexP_irr _ q
/-! ### data without lists -/
theorem lfs_cells : ∀ ks : List (Int × Int), lfs (ks.map cellD) = true
  | [] => rfl
  | c :: ks => by
    show (lf (cellD c) && lfs (ks.map cellD)) = true
    rw [lfs_cells ks]
    rfl
theorem lfs_ints : ∀ ks : List Int, lfs (ks.map D.int) = true
  | [] => rfl
  | c :: ks => by
    show (lf (.int c) && lfs (ks.map D.int)) = true
    rw [lfs_ints ks]
    rfl
theorem cutL1 {α : Type} {xs : List α} : cutL xs (some 1) none = xs.drop 1 := by
  cases xs with
  | nil => rfl
  | cons x r =>
    have := cut_from (xs := x :: r) (n := 1) (by rw [List.length_cons]; omega)
    exact this
end Dt

set_option Elab.async false
set_option linter.all false
set_option maxRecDepth 100000
set_option maxHeartbeats 2000000
/-! Dt, part 40: the law's own def where no container is being shown: repr of data. -/
namespace Dt
open PySem PySem.Spec PyProof.Rows L2
section
variable {P : Program} {w : World} {K : PySem.W.Frag} {mg : Str → Option Value} {base : Heap} {x qual : Str} {params : Arguments} {body : List Stmt} {scope : Scope} {dvs : List V} {kws : List (Str × V)} {f : Addr} {fd : FuncData}
/-- a def's promise where nothing is being shown -/
def RunG (P : Program) (w : World) (K : PySem.W.Frag) (mg : Str → Option Value) (base : Heap) (k : Nat) (f : Addr) (fd : FuncData) (ps : List Str) (sp : Sp) : Prop :=
  ∀ (B : Around) (up : List Env) (z : Shared) (G : Hp) (ar : Args) (us : List Value) (vs : List V) (Q : VK) (E : XK), B.guards = some [] → Room k B → Env0 P w K mg base B up z G → BindsTo z fd ar (ps.zip us) → Vals vs us → sp vs G Q E → codeAny (model P w) B (.call (.ref f) ar) (CR CX0 up P w G z Q E) z
theorem fn_dataG {N ps : List Str} {k : Nat} {S : DS} (F : FunD K x qual params body scope dvs kws f fd) (Sc : FnScope N ps scope) (len : ∀ ds M Φ, S ds M Φ → ds.length = ps.length)
    (hbody : ∀ (cdv : Value) (A : Around) (outer : List Env) (s : Shared) (H : Hp) (E : XK) (ds : List D) (M : Mem) (Φ : VP), A.guards = some [] → Room k (A.deeper (envOfC qual scope s.heap.objs.size f cdv)) → S ds M Φ →
      WS (cxOf CX0 P w K mg base N qual scope f cdv A outer s H E).nox (startD N.length ds) M body { nx := fun _ M' => Φ .non M', rt := Φ }) : RunG P w K mg base (k + 1) f fd ps (spOf K S) := by
  intro B up z G ar us vs Q E hgd room env bind rel hsp
  obtain ⟨P1, M, ds, Φ, i, m, hs, hq⟩ := hsp
  have len1 : vs.length = ps.length := by rw [i.1]; exact len _ _ _ hs
  obtain ⟨oc, od, dV, kV, doc, pm, an, cdv, ct, osl, rfl, lk, code, _, _⟩ := F.ex
  have kept : ∀ b o, base.get? b = some o → z.heap.get? b = some o := fun b o e => (env.bs b o e).1
  have kin : K.In z.heap := env.mod.kin.keeps kept
  have names : ∀ y ∈ ps.zip us, scope.names.lookup y.1 = some .local ∨ (scope.names.lookup y.1 = some .cell ∧ ((cellsFrom (z.heap.objs.size + 1) scope.names []).lookup y.1).isSome = true) := fun y hy =>
    (Sc.par y.1 (List.of_mem_zip (show (y.1, y.2) ∈ ps.zip us from hy)).1).imp id fun q => ⟨q, PySem.W.cellsFrom_some _ _ _ (.inl q)⟩
  refine codeAny_call_function room.depth (kin _ _ lk) rfl Sc.co Sc.gen rfl (PySem.W.codeRec_of kin code) (bind _ _ _ _ (wpAny_newFunctionEnv_cells Sc.kind names fun e1 he z1 q1 => ?_))
  subst he
  refine ⟨(env.mod.nolimit.keeps kept).keeps q1.toInCall.keep, codeAny_func ?_⟩
  have inv := inv_start (CX := CX0) (E := E) Sc room.hd env len1 rel q1
  have walk := (hbody cdv B up z G E ds M Φ hgd (room.deeper _) hs P1 (L2.start N vs) G (sok_start i) m).mono (D' := { nx := fun _ H' => Q .non H', rt := Q }) ⟨fun σ' H' ⟨Γ', M', P', q, e, _, m'⟩ => hq _ _ ⟨.non, M', P', q, e, m', .non⟩, fun v H' z => hq v H' z, fun _ _ ⟨_, _, _, z, _⟩ => z.elim, fun _ _ ⟨_, _, _, z, _⟩ => z.elim⟩
  refine wpAny_mono ((PSs.nox (X := cxOf CX0 P w K mg base N qual scope f cdv B up z G E) pss_wp).run [] z1 _ G _ inv walk) (fun fl z2 h2 => ?_) fun e z2 h2 => h2
  cases fl with
  | ret u =>
    obtain ⟨v, σ2, H2, J, rv, q⟩ := h2
    exact ⟨v, H2, J.os, J.bare, J.base, J.hok, rv, q⟩
  | next =>
    obtain ⟨σ2, H2, J, q⟩ := h2
    exact ⟨.non, H2, J.os, J.bare, J.base, J.hok, rfl, q⟩
  | brk => exact h2.elim fun _ h => h.elim fun _ h => h.2.elim
  | cont => exact h2.elim fun _ h => h.elim fun _ h => h.2.elim
end
section
variable {P : Program} {w : World} {K : PySem.W.Frag} {mg mb : Str → Option Value} {k : Nat} {fa a : Addr} {fd : FuncData} {x : Str} {sp : Sp} {z : Shared} {vs : List Value} {ns : List Int}
/-- the end of the law's call, from any heap of tracked objects that holds the script alone -/
theorem endG {G : Hp} (KX : K.In z.heap) (hns : z.heap.Ns mainGlobals mg) (hb : z.heap.Ns builtinsNs mb) (hbb : ∀ x : Str, x ≠ "__name__" → mb x = bootBuiltins x) (hlim : z.heap.NoLimit) (hg : z.gens = #[])
    (ha : z.heap.get? a = some { cls := .type "list", data := .seq vs.toArray }) (hr : Room k callerA)
    (F : ∀ base : Heap, K.In base → base.Ns mainGlobals mg → RunG P w K mg base k fa fd [x] sp) (hbind : ∀ (s : Shared) (u : Value), BindsTo s fd ⟨[u], []⟩ [(x, u)])
    (hO : Only G) (hok : HOk P w G z.heap) (hA : ∀ b, G b ≠ none → b = a) (hK : G a ≠ none → K.lookup a = none) (hsp : sp [.ref a] G (fun v _ => v = .bl true) fun _ _ _ => False) :
    codeAny (model P w) callerA (.call (.ref fa) ⟨[.ref a], []⟩) (fun r s' => r = .ok (.ret (.bool true)) ∧ OldK z.heap s'.heap ∧ s'.os = z.os ∧ AllBare s'.gens) z := by
  have free : ∀ b, b ≠ a → G b = none := fun b hne => Classical.byContradiction fun q => hne (hA b q)
  have there : ∀ {b : Addr} {o : Obj}, z.heap.get? b = some o → G b = none → (hidT z.heap G).get? b = some o := fun e n => hidT_get e n
  have nsB : ∀ {b : Addr} {m : Str → Option Value}, z.heap.Ns b m → (hidT z.heap G).Ns b m := fun {b m} ⟨o, es, ep, e, d, r⟩ => ⟨o, es, ep, there e (free b fun q => by
    subst q
    rw [ha] at e
    cases e
    exact absurd (show Data.seq vs.toArray _ = Data.dict es ep from d) (by intro q; cases q)), d, r⟩
  have kinB : K.In (hidT z.heap G) := fun b o e => there (KX b o e) (Classical.byContradiction fun q => by
    obtain rfl := hA b q
    rw [hK q] at e
    cases e)
  obtain ⟨mc, c1, c2⟩ := hlim
  have env : Env0 P w K mg (hidT z.heap G) callerA [] z G := ⟨rfl, ⟨kinB, nsB hns, ⟨mb, nsB hb, hbb⟩, ⟨mc, nsB c1, c2⟩⟩, fun b o e => of_hidT e, Nat.le_of_eq (hidT_size _ _), trivial, (fun b q => by cases q), hok, .of_eq hg⟩
  refine codeAny_mono (F _ kinB (nsB hns) callerA [] z G ⟨[.ref a], []⟩ [.ref a] [.ref a] _ _ rfl hr env (hbind z (.ref a)) (.cons rfl .nil) hsp) fun r s' h => ?_
  match r, h with
  | .error e, h => exact (show False from h).elim
  | .ok .next, h => exact (show False from h).elim
  | .ok .brk, h => exact (show False from h).elim
  | .ok .cont, h => exact (show False from h).elim
  | .ok (.ret u), h =>
    obtain ⟨v, G2, os, bare, un, hok2, rel, q⟩ := h
    have q : v = .bl true := q
    subst q
    obtain rfl : u = Value.bool true := rel
    refine ⟨rfl, OldK.of_keep fun b o e => ?_, os, bare⟩
    rcases hO b with q | ⟨ob, xs, q⟩
    · exact un.keep b o e q (fun z => by cases z) (by simp)
    · have e1 := (hok b _ q).1
      have e2 := (hok2 b _ (un.frzs b ob _ q)).1
      exact (Option.some.inj (e.symm.trans e1)) ▸ e2
theorem law_callG (KX : K.In z.heap) (hns : z.heap.Ns mainGlobals mg) (hb : z.heap.Ns builtinsNs mb) (hbb : ∀ x : Str, x ≠ "__name__" → mb x = bootBuiltins x) (hlim : z.heap.NoLimit) (hg : z.gens = #[])
    (ha : z.heap.get? a = some { cls := .type "list", data := .seq vs.toArray }) (hi : IntsAre vs ns) (hl : ns.length ≤ sizeLine) (hr : Room k callerA)
    (F : ∀ base : Heap, K.In base → base.Ns mainGlobals mg → RunG P w K mg base k fa fd [x] sp) (hbind : ∀ (s : Shared) (u : Value), BindsTo s fd ⟨[u], []⟩ [(x, u)])
    (hsp : ∀ H : Hp, Only H → SqL K H a (ns.map V.int) → sp [.ref a] H (fun v _ => v = .bl true) fun _ _ _ => False) :
    codeAny (model P w) callerA (.call (.ref fa) ⟨[.ref a], []⟩) (fun r s' => r = .ok (.ret (.bool true)) ∧ OldK z.heap s'.heap ∧ s'.os = z.os ∧ AllBare s'.gens) z := by
  have rv : Vals (ns.map V.int) vs := vals_ints hi
  have n1 : vs.length ≤ sizeLine := by rw [hi.length]; exact hl
  rcases hk : K.lookup a with _ | o
  · have s1 : (fun b => if b = a then some (HO.frz { cls := .type "list", data := .seq vs.toArray } (.lst (ns.map V.int))) else none) a = some (.frz { cls := .type "list", data := .seq vs.toArray } (.lst (ns.map V.int))) := if_pos rfl
    refine endG (G := fun b => if b = a then some (HO.frz { cls := .type "list", data := .seq vs.toArray } (.lst (ns.map V.int))) else none) KX hns hb hbb hlim hg ha hr F hbind (fun b => ?_) (fun b u q => ?_) (fun b q => Classical.byContradiction fun n => q (if_neg n)) (fun _ => hk) (hsp _ (fun b => ?_) (.inl (.inr ⟨_, s1⟩)))
    · by_cases n : b = a
      · exact .inr ⟨_, _, if_pos n⟩
      · exact .inl (if_neg n)
    · by_cases n : b = a
      · subst n
        cases s1.symm.trans q
        exact ⟨ha, by rw [List.length_map]; exact hl, vs, _, rv, ha⟩
      · cases (if_neg n).symm.trans q
    · by_cases n : b = a
      · exact .inr ⟨_, _, if_pos n⟩
      · exact .inl (if_neg n)
  · have e := (KX a o hk).symm.trans ha
    cases e
    refine endG (G := fun _ => none) KX hns hb hbb hlim hg ha hr F hbind (fun _ => .inl rfl) (fun b u q => by cases q) (fun b q => (q rfl).elim) (fun q => (q rfl).elim) (hsp _ (fun _ => .inl rfl) (.inr ⟨_, vs.toArray, _, hk, rfl, rfl, rfl, by rw [List.size_toArray]; exact n1, by simpa using rv⟩))
end
theorem walk_ofG {l : PySem.W.OpenLaw} {n k : Nat} {q : Program} {loose : List Str} {XP : (Str → Option Value) → Heap → Prop} {YP : World → Heap → Prop} {d : DefRec} {x : Str}
    (hn : l.most = some n) (hn2 : n ≤ sizeLine) (hdf : d.params.defaults = []) (hr : Room k callerA)
    (F : ∀ (w : World) (mg : Str → Option Value) (fa : Addr) (h : Heap), YP w h → h.Ns mainGlobals mg → mg d.name = some (.ref fa) →
      ∃ (K : PySem.W.Frag) (fd : FuncData) (sp : Sp), K.In h ∧ (∀ (s : Shared) (u : Value), BindsTo s fd ⟨[u], []⟩ [(x, u)]) ∧
        (∀ (H : Hp) (a : Addr) (ns : List Int), ns.length ≤ n → Only H → SqL K H a (ns.map V.int) → sp [.ref a] H (fun v _ => v = .bl true) fun _ _ _ => False) ∧
        ∀ base : Heap, K.In base → base.Ns mainGlobals mg → RunG l.prog w K mg base k fa fd [x] sp) :
    PySem.W.WalkO q loose XP YP l.row.toRowW d [] (fun f vs => PySem.call f vs) :=
  Att.attach_call hn hdf fun w s₀ z mg mb fa o pm cd doc a vs ns G Y ho hd hcd hmg hobj hints hlen hg => by
    obtain ⟨K, fd, sp, KX, hb, hsp, hF⟩ := F w mg fa _ Y G.T.g hmg
    exact law_callG KX G.T.g G.T.b G.T.builtins G.T.nolimit hg hobj hints (Nat.le_trans hlen hn2) hr hF hb fun H hO hS => hsp H a ns hlen hO hS
/-! ### repr of data -/
section
variable {X : Cx} {M : Mem} {Φ : VP}
theorem call_reprD (hg : X.A.guards = some []) : CallR X (.builtin "repr") (fun xs H Q => ∃ (a : Addr) (d : PyData), xs = [.ref a] ∧ Dp X.K H (.ref a) d ∧ d.showable = true ∧ d.hasDict = false ∧ X.A.units + (d.depth + 1) < cLine ∧ d.shown.length ≤ sizeLine ∧ Q (.str d.shown) H) := by
  intro pins s σ H xs us Q I r h
  obtain ⟨a, d, rfl, hd, h1, h2, h3, h4, q⟩ := h
  obtain ⟨u, rfl, ru⟩ := r.one
  cases ru
  obtain ⟨as, rd⟩ := Dp.reads I d (.ref a) (.ref a) hd rfl
  exact repr_of_reads' rd h1 (fun z => by rw [h2] at z; cases z) hg h3 (fun _ _ e => e) (fun h' u tk hk => ⟨.str d.shown, H, I.kept hk, ⟨_, rfl⟩, q⟩) h4
end
end Dt

set_option Elab.async false
set_option linter.all false
set_option maxRecDepth 100000
set_option maxHeartbeats 2000000
/-! Dt, part 41: repr of data by a cost; displays with stars. -/
namespace Dt
open PySem PySem.Spec PyProof.Rows L2
mutual
/-- data that repr shows, with small numbers -/
def smD : D → Bool
  | .non => true
  | .bl _ => true
  | .int i => decide (i.natAbs < 10 ^ 100)
  | .str x => x.cps.toList.all fun c => decide (c < 16 ^ 8)
  | .tup xs => smDs xs
  | .lst xs => smDs xs
  | .ty _ => false
  | .obj _ _ => false
  | .adr _ => false
  | .dic _ => false
def smDs : List D → Bool
  | [] => true
  | x :: xs => smD x && smDs xs
end
mutual
def costD : D → Nat
  | .non => 4
  | .bl _ => 5
  | .int _ => 101
  | .str x => 10 * x.length + 2
  | .tup xs => costDs xs + 3
  | .lst xs => costDs xs + 3
  | .ty _ => 0
  | .obj _ _ => 0
  | .adr _ => 0
  | .dic _ => 0
def costDs : List D → Nat
  | [] => 0
  | x :: xs => costD x + 2 + costDs xs
end
theorem log_of {i : Int} (h : i.natAbs < 10 ^ 100) : i.natAbs.log2 < 1920 := by
  by_cases h0 : i.natAbs = 0
  · rw [h0]
    decide
  · exact (Nat.log2_lt h0).mpr (Nat.lt_of_lt_of_le h (by decide +kernel))
mutual
theorem show_ok : ∀ d : D, smD d = true → okD d = true ∧ (py d).showable = true ∧ (py d).hasDict = false ∧ (py d).shown.length ≤ costD d
  | .non, _ => ⟨rfl, rfl, rfl, by decide +kernel⟩
  | .bl true, _ => ⟨rfl, rfl, rfl, by decide +kernel⟩
  | .bl false, _ => ⟨rfl, rfl, rfl, by decide +kernel⟩
  | .int i, h => ⟨rfl, decide_eq_true (log_of (of_decide_eq_true h)), rfl, by
    show (Str.ofString (toString i)).length ≤ 101
    rw [PySem.ofString_length]
    exact int_text_length_le10 (k := 100) (by decide) (of_decide_eq_true h)⟩
  | .str x, h => ⟨rfl, rfl, rfl, by
    show (reprText x).length ≤ 10 * x.length + 2
    exact PySem.StrLaws.reprText_len x fun c hc => of_decide_eq_true (List.all_eq_true.mp h c hc)⟩
  | .tup xs, h => by
    obtain ⟨h1, h2, h3, h4⟩ := shows_ok xs h
    refine ⟨h1, h2, h3, ?_⟩
    show (tupleText (PyData.shownAll (pys xs))).length ≤ costDs xs + 3
    have := tupleText_len_le (PyData.shownAll (pys xs))
    omega
  | .lst xs, h => by
    obtain ⟨h1, h2, h3, h4⟩ := shows_ok xs h
    refine ⟨h1, h2, h3, ?_⟩
    show (listText (PyData.shownAll (pys xs))).length ≤ costDs xs + 3
    have := listText_len_le (PyData.shownAll (pys xs))
    omega
theorem shows_ok : ∀ xs : List D, smDs xs = true → okDs xs = true ∧ PyData.showableAll (pys xs) = true ∧ PyData.hasDictAll (pys xs) = false ∧ ((PyData.shownAll (pys xs)).map (·.length)).sum + 2 * (PyData.shownAll (pys xs)).length ≤ costDs xs
  | [], _ => ⟨rfl, rfl, rfl, Nat.le_refl _⟩
  | x :: xs, h => by
    obtain ⟨a, b⟩ := Bool.and_eq_true_iff.mp (show (smD x && smDs xs) = true from h)
    obtain ⟨h1, h2, h3, h4⟩ := show_ok x a
    obtain ⟨g1, g2, g3, g4⟩ := shows_ok xs b
    refine ⟨?_, ?_, ?_, ?_⟩
    · show (okD x && okDs xs) = true
      rw [h1, g1]
      rfl
    · show ((py x).showable && PyData.showableAll (pys xs)) = true
      rw [h2, g2]
      rfl
    · show ((py x).hasDict || PyData.hasDictAll (pys xs)) = false
      rw [h3, g3]
      rfl
    · show (((py x).shown :: PyData.shownAll (pys xs)).map (·.length)).sum + 2 * ((py x).shown :: PyData.shownAll (pys xs)).length ≤ costD x + 2 + costDs xs
      rw [List.map_cons, List.sum_cons, List.length_cons]
      omega
end
section
variable {X : Cx} {Γ : Sl} {M : Mem} {Φ : VP} {e : Expr} {es : List Expr} {p : Pos}
/-- repr(a tuple or a list) -/
theorem cd_reprT {xs : List D} (hg : X.A.guards = some []) (sm : smDs xs = true) (hc : costDs xs + 3 ≤ sizeLine) (hu : X.A.units + (PyData.depthAll (pys xs) + 2) < cLine) (q : Φ (.str (py (.tup xs)).shown) M) : CaD X (.builtin "repr") [.tup xs] M Φ := cd_of (call_reprD hg) fun P H vs m h => by
  obtain ⟨v, rfl, hv⟩ := h.un1
  obtain ⟨h1, h2, h3, h4⟩ := show_ok (.tup xs) sm
  have hd := dp_of m.ex _ _ h1 hv
  cases hv with
  | tup hs hl hi => exact ⟨_, _, rfl, hd, h2, h3, by show X.A.units + (PyData.depthAll (pys xs) + 1 + 1) < cLine; omega, Nat.le_trans h4 hc, .one q m .str⟩
theorem cd_reprL {x : D} {xs : List D} (hg : X.A.guards = some []) (hx : LstD M x xs) (sm : smDs xs = true) (hc : costDs xs + 3 ≤ sizeLine) (hu : X.A.units + (PyData.depthAll (pys xs) + 2) < cLine) (q : Φ (.str (py (.lst xs)).shown) M) : CaD X (.builtin "repr") [x] M Φ := cd_of (call_reprD hg) fun P H vs m h => by
  obtain ⟨v, rfl, hv⟩ := h.un1
  obtain ⟨h1, h2, h3, h4⟩ := show_ok (.lst xs) sm
  have hsee : SeenD M x (.lst xs) := by
    rcases hx with rfl | ⟨k, l, rfl, hk⟩
    · exact .inl rfl
    · exact .inr ⟨k, l, xs, rfl, hk, rfl⟩
  have hd := hsee.dp m hv h1
  obtain ⟨l, us, rfl, _, _⟩ := hx.at_ m hv
  exact ⟨_, _, rfl, hd, h2, h3, by show X.A.units + (PyData.depthAll (pys xs) + 1 + 1) < cLine; omega, Nat.le_trans h4 hc, .one q m .str⟩
/-- *e among arguments or items -/
theorem wa_star {Φ : List D → Mem → Prop} (h : WE X Γ M e fun d M1 => ∃ xs, (LstD M1 d xs ∨ d = .tup xs) ∧ WA X Γ M1 es fun ds M2 => Φ (xs ++ ds) M2) (hs : starEach (.Starred e p :: es) X.env = (true, eval e X.env) :: starEach es X.env := by rfl) : WA X Γ M (.Starred e p :: es) Φ := fun P σ H s m =>
  wpA_of (StX.pa_star pe_wp pa_wp hs) ((h P σ H s m).mono fun v H1 ⟨d, M1, P1, ⟨xs, hd, h2⟩, e1, m1, i1⟩ => by
    have key : ∃ p us, v = V.ref p ∧ (SqT X.K H1 p us ∨ SqL X.K H1 p us) ∧ IsDs X.K P1 us xs := by
      rcases hd with hd | rfl
      · obtain ⟨l, us, rfl, h3, h4⟩ := hd.at_ m1 i1
        exact ⟨l, us, rfl, .inr h3, h4⟩
      · cases i1 with
        | tup hs hl hi => exact ⟨_, _, rfl, .inl (Same.tupS m1.ex hs), hl, hi⟩
    obtain ⟨p, us, rfl, h3, h4⟩ := key
    refine ⟨p, us, rfl, h3, (h2 P1 σ H1 (s.mono e1) m1).mono fun ws H2 ⟨ds, M2, P2, q, e2, m2, i2⟩ => ⟨_, M2, P2, q, e1.trans e2, m2, (h4.mono e2).append i2⟩⟩)
end
end Dt

set_option Elab.async false
set_option linter.all false
set_option maxRecDepth 100000
set_option maxHeartbeats 2000000
/-! Dt, part 42: rooms; lists of tuples of cells; == of such. -/
namespace Dt
open PySem PySem.Spec PyProof.Rows L2
theorem _root_.L2.Room.u1 {k : Nat} {A : Around} (r : Room k A) : A.units + 1 < cLine := by
  have := r.un
  omega
theorem _root_.L2.Room.u65 {k : Nat} {A : Around} (r : Room k A) : A.units + 65 < cLine := by
  have := r.un
  omega
theorem _root_.L2.Room.un' {k n : Nat} {A : Around} (r : Room k A) (h : n ≤ 100) : A.units + n < cLine := by
  have := r.un
  omega
theorem ok_lpt : ∀ Ls : List (List (Int × Int)), okDs (Ls.map fun L => D.tup (L.map cellD)) = true
  | [] => rfl
  | L :: Ls => by
    show (okDs (L.map cellD) && okDs (Ls.map fun L => D.tup (L.map cellD))) = true
    rw [ok_lpt Ls, show okDs (L.map cellD) = true from ok_ps L]
    rfl
theorem lay_lpt : ∀ Ls : List (List (Int × Int)), PyData.canLayAll0 (pys (Ls.map fun L => D.tup (L.map cellD))) = true
  | [] => rfl
  | L :: Ls => by
    show PyData.canLayAll0 (.tuple (pys (L.map cellD)) :: pys (Ls.map fun L => D.tup (L.map cellD))) = true
    unfold PyData.canLayAll0
    rw [lay_lpt Ls, show PyData.canLay0 (.tuple (pys (L.map cellD))) = true from lay_ps L]
    rfl
theorem deep_lpt : ∀ Ls : List (List (Int × Int)), PyData.depthAll (pys (Ls.map fun L => D.tup (L.map cellD))) ≤ 2
  | [] => Nat.zero_le _
  | L :: Ls => by
    show max (PyData.depthAll (pys (L.map cellD)) + 1) (PyData.depthAll (pys (Ls.map fun L => D.tup (L.map cellD)))) ≤ 2
    have := deep_ps L
    exact Nat.max_le.mpr ⟨Nat.succ_le_succ this, deep_lpt Ls⟩
theorem shp_lpt (Ls : List (List (Int × Int))) : shp (.lst (Ls.map fun L => D.tup (L.map cellD))) = true := by
  unfold shp SeqAt.shaped
  rw [show okD (.lst (Ls.map fun L => D.tup (L.map cellD))) = true from ok_lpt Ls, Bool.true_and, show PyData.canLay0 (py (.lst (Ls.map fun L => D.tup (L.map cellD)))) = true from lay_lpt Ls, Bool.true_and]
  refine decide_eq_true ?_
  show PyData.depthAll (pys (Ls.map fun L => D.tup (L.map cellD))) + 1 ≤ 64
  have := deep_lpt Ls
  omega
section
variable {X : Cx} {Γ : Sl} {M : Mem} {Φ : VP} {a b : Expr} {pos : Pos}
/-- a and b, both bools, memory as it is -/
theorem we_and2 {x y : Bool} (h : WE X Γ M a fun d M1 => d = .bl x ∧ M1 = M) (h2 : WE X Γ M b fun d M1 => d = .bl y ∧ M1 = M) (q : Φ (.bl (x && y)) M) : WE X Γ M (.BoolOp .And [a, b] pos) Φ := by
  refine we_and (h.mono fun d M1 ⟨hd, hM⟩ => ⟨x, hd, fun hx => ?_, fun hx => ?_⟩)
  · subst hM
    refine we_one (h2.mono fun d M1 ⟨hd, hM⟩ => ?_)
    subst hd hM
    rw [hx] at q
    exact q
  · subst hM
    rw [hx] at q
    exact q
end
end Dt

set_option Elab.async false
set_option linter.all false
set_option maxRecDepth 100000
set_option maxHeartbeats 2000000
/-! Dt, part 43: sorted(set(list of numbers)) with fewer than 64 unlike ones. -/
namespace Dt
open PySem PySem.Spec PyProof.Rows L2
theorem len_le_of : ∀ (as bs : List Int), as.Nodup → (∀ k, k ∈ as → k ∈ bs) → as.length ≤ bs.length
  | [], bs, _, _ => Nat.zero_le _
  | a :: as, bs, hn, h => by
    obtain ⟨h1, h2⟩ := List.nodup_cons.mp hn
    have ha := h a List.mem_cons_self
    have := len_le_of as (bs.erase a) h2 fun c hc => (List.mem_erase_of_ne (fun (e : c = a) => h1 (e ▸ hc))).mpr (h c (List.mem_cons_of_mem _ hc))
    rw [List.length_erase_of_mem ha] at this
    have := List.length_pos_of_mem ha
    rw [List.length_cons]
    omega
section
variable {X : Cx} {Γ : Sl} {M : Mem} {Φ : VP}
theorem cr_setL2 (hc : X.calm = true) : CallR X (.type "set") (fun xs H Q => ∃ (a : Addr) (ns : List Int), xs = [.ref a] ∧ SqL X.K H a (ns.map V.int) ∧ ns.length ≤ 2000 ∧ ∀ p c, H p = none → c ≤ (sortU ns).length → Q (.ref p) (upd H p (SetO X.w p (fun j => decide (j ∈ ns)) c))) := by
  intro pins s σ H xs us Q I r h
  obtain ⟨a, ns, rfl, hq, hb, q⟩ := h
  obtain rfl := Vals.ref1 r
  obtain ⟨its, rv, pl, hz⟩ := I.list hq
  obtain ⟨hp, g, d, t, os⟩ := s
  refine call_setL (ns := ns) (I.ok.hd hc) pl.isList (by simpa using ints_of_vals rv) (by have e : scanBound = 4096 := rfl; omega) fun h' tk ⟨c, hS, hcl, hk⟩ => ?_
  have hcs : c ≤ (sortU ns).length := by
    obtain ⟨o, es, ep, t', _, _, _, _, nd, mem, _, _, hsz, _⟩ := hS
    have := len_le_of (es.toList.map keyOf) (sortU ns) nd fun k hk' => by
      rw [mem_sortU]
      exact of_decide_eq_true ((mem k).mpr hk')
    rw [List.length_map, Array.length_toList, hsz] at this
    exact this
  have hn : H hp.objs.size = none := I.hok.fresh (Nat.le_refl _)
  have J := I.laid (t' := tk) (a := hp.objs.size) (o := SetO X.w hp.objs.size (fun j => decide (j ∈ ns)) c) (h' := h') hk (Nat.le_refl _) (setO_new hS)
  exact ⟨.ref _, _, J, rfl, q _ c hn hcs⟩
theorem wcSetG {p : Pos} {pos : Pos} (hm : X.mg "set" = none) (hms : X.mg "sorted" = none) {e2 : Expr} {pos2 p2 : Pos}
    (h : WA X Γ M [e2] fun ds M1 => ∃ ns : List Int, ds = [.lst (ns.map D.int)] ∧ (ns.length ≤ 2000 ∧ (sortU ns).length < 64) ∧ Φ (.lst ((sortU ns).map D.int)) M1)
    (hc : X.calm = true := by rfl) (hg : Gl X "set" := by rfl) (hg2 : Gl X "sorted" := by rfl) (he : starEach [e2] X.env = (false, eval e2 X.env) :: starEach [] X.env := by rfl) (hpl : (backTo pos2 (starEach [] X.env)).any (·.1) = false := by rfl)
    (he1 : starEach [.Call (.Name "set" p2) [e2] [] pos2] X.env = (false, eval (.Call (.Name "set" p2) [e2] [] pos2) X.env) :: starEach [] X.env := by rfl) (hpl1 : (backTo pos (starEach [] X.env)).any (·.1) = false := by rfl) :
    WE X Γ M (.Call (.Name "sorted" p) [.Call (.Name "set" p2) [e2] [] pos2] [] pos) Φ := fun P σ H s m => by
  have hset : PE X (.Call (.Name "set" p2) [e2] [] pos2) (tCB _ (wpA X [e2])) := pe_callTy (cr_setL2 hc) hg hm (by decide +kernel) pa_wp (by decide) (by decide) he hpl
  refine wpT_of (pe_callB (cr_sortedSet hc) hg2 hms boot_sorted (pa_cons hset pa_nil he1) (by decide) (by decide) he1 hpl1) ?_
  refine (h P σ H s m).mono fun vs H1 ⟨ds, M1, P1, ⟨ns, ed, ⟨hl, hl2⟩, q⟩, e1, m1, i1⟩ => ?_
  subst ed
  obtain ⟨v, rfl, hv⟩ := i1.un1
  cases hv with
  | @lst a xs _ hs hlx hix =>
    rw [isDs_ints ⟨hlx, hix⟩] at hs
    refine ⟨a, ns, rfl, m1.ex.seq hs, hl, fun p0 c hn hcl => ?_⟩
    obtain ⟨m2, e2'⟩ := m1.push (o := SetO X.w p0 (fun j => decide (j ∈ ns)) c) hn
    refine ⟨p0, _, c, rfl, upd_same, by omega, fun ms p3 h1 h2 h3 h4 => ?_⟩
    obtain ⟨m3, e3⟩ := m2.push (o := .lst (ms.map V.int)) h4
    have em : ms = sortU ns := pw_eq ms (sortU ns) h1 (pw_sortU ns) fun k => by rw [h2 k, decide_eq_true_eq, mem_sortU]
    subst em
    exact ⟨_, M1, _, q, (e1.trans e2').trans e3, m3, .lst (SqL.of upd_same) (IsDs.ints (K := X.K) (P := P1) _).1 (IsDs.ints _).2⟩
end
/-- cells that can be ordered -/
structure OrdOk (cs : List (Int × Int)) : Prop where
  len : cs.length ≤ 1000
  xs : (sortU (cs.map (·.1))).length < 64
  ys : ∀ x, (sortU ((cs.filter fun c => decide (c.1 = x)).map (·.2))).length < 64
theorem OrdOk.lt {cs : List (Int × Int)} (h : OrdOk cs) : cs.length < sizeLine := by
  have h5 : sizeLine = 2 ^ 24 := rfl
  have := h.len
  omega
theorem OrdOk.of {cs : List (Int × Int)} (h : cs.length < 64) : OrdOk cs := ⟨by omega, by
    have := sortU_len (cs.map (·.1))
    rw [List.length_map] at this
    omega, fun x => by
    have := sortU_len ((cs.filter fun c => decide (c.1 = x)).map (·.2))
    have h2 := List.length_filter_le (fun c : Int × Int => decide (c.1 = x)) cs
    rw [List.length_map] at this
    omega⟩
/-- numbers between bounds are few -/
theorem few {ns : List Int} {a : Int} {n : Nat} (h : ∀ k, k ∈ ns → a ≤ k ∧ k < a + n) : (sortU ns).length ≤ n := by
  have := len_le_of (sortU ns) (rn a n) ((pw_sortU ns).imp fun {x y} q e => by omega) fun k hk => by
    rw [mem_sortU] at hk
    obtain ⟨h1, h2⟩ := h k hk
    unfold rn
    exact List.mem_map.mpr ⟨(k - a).toNat, List.mem_range.mpr (by omega), by omega⟩
  rw [rn_len] at this
  exact this
end Dt

set_option Elab.async false
set_option linter.all false
set_option maxRecDepth 100000
set_option maxHeartbeats 2000000
/-! Dt, part 44: what is iterated over, by data; comprehensions with two fors. -/
namespace Dt
open PySem PySem.Spec PyProof.Rows L2
structure ItOk (K : PySem.W.Frag) (J : It) (xs : List D) (P1 : Hp) : Prop where
  stop : ∀ H', Ex P1 H' → J.stop xs.length H'
  go : ∀ i H', i < xs.length → Ex P1 H' → J.go i H'
  yld : ∀ i H' v H'', Ex P1 H' → i < xs.length → J.yld i H' v H'' → H'' = H' ∧ ∃ y, xs[i]? = some y ∧ IsD K P1 v y
theorem itok_list {K : PySem.W.Frag} {P1 : Hp} {a : Addr} {vs : List V} {xs : List D} (h : SqL K P1 a vs) (d : IsDs K P1 vs xs) : ItOk K (Itl K a) xs P1 := by
  have hl := d.1
  refine ⟨fun H' e => ⟨vs, e.seq h, by omega⟩, fun i H' hi e => ⟨vs, vs[i]'(by omega), e.seq h, List.getElem?_eq_getElem (by omega)⟩, fun i H' v H'' e hi ⟨q1, q2⟩ => ⟨q1, d.getV (q2 vs (e.seq h))⟩⟩
theorem itok_tup {K : PySem.W.Frag} {P1 : Hp} {a : Addr} {vs : List V} {xs : List D} (h : SqT K P1 a vs) (d : IsDs K P1 vs xs) : ItOk K (Itt K a) xs P1 := by
  have hl := d.1
  refine ⟨fun H' e => ⟨vs, Same.tupS e h, by omega⟩, fun i H' hi e => ⟨vs, vs[i]'(by omega), Same.tupS e h, List.getElem?_eq_getElem (by omega)⟩, fun i H' v H'' e hi ⟨q1, q2⟩ => ⟨q1, d.getV (q2 vs (Same.tupS e h))⟩⟩
theorem itok_rng {K : PySem.W.Frag} {P1 : Hp} {lo : Int} {n : Nat} : ItOk K (Itr lo n) (rngD lo n) P1 := by
  have hl := rngD_len n lo
  refine ⟨fun H' e => by rw [hl]; exact Nat.le_refl n, fun i H' hi e => by rw [hl] at hi; exact hi, fun i H' v H'' e hi ⟨q1, q2⟩ => ⟨q1, _, rngD_get n i lo (by rw [hl] at hi; exact hi), ?_⟩⟩
  rw [q2]
  exact .int
/-- an iterable, by data -/
def WI (X : Cx) (Γ : Sl) (M : Mem) (wi : TI) (Φ : List D → Mem → Prop) : Prop := ∀ P σ H, SOk X.K Γ P σ → MOk X.K M P H → wi σ H fun J H1 => ∃ xs M1 P1, Φ xs M1 ∧ Ex P P1 ∧ MOk X.K M1 P1 H1 ∧ ItOk X.K J xs P1
section
variable {X : Cx} {Γ : Sl} {M : Mem} {Φ : List D → Mem → Prop} {e a b : Expr}
theorem wi_L (h : WE X Γ M e fun d M1 => ∃ xs, d = .lst xs ∧ Φ xs M1) : WI X Γ M (iList X.K (wpT X e)) Φ := fun P σ H s m => (h P σ H s m).mono fun v H1 ⟨d, M1, P1, ⟨xs, hd, q⟩, e1, m1, i1⟩ => by
  subst hd
  cases i1 with
  | @lst a vs _ hq hl hi => exact ⟨a, rfl, ⟨vs, m1.ex.seq hq⟩, xs, M1, P1, q, e1, m1, itok_list hq ⟨hl, hi⟩⟩
theorem wi_T (h : WE X Γ M e fun d M1 => ∃ xs, d = .tup xs ∧ Φ xs M1) : WI X Γ M (iTup X.K (wpT X e)) Φ := fun P σ H s m => (h P σ H s m).mono fun v H1 ⟨d, M1, P1, ⟨xs, hd, q⟩, e1, m1, i1⟩ => by
  subst hd
  cases i1 with
  | @tup a vs _ hq hl hi => exact ⟨a, rfl, ⟨vs, Same.tupS m1.ex hq⟩, xs, M1, P1, q, e1, m1, itok_tup hq ⟨hl, hi⟩⟩
theorem wi_R1 (h : WA X Γ M [a] fun ds M1 => ∃ n : Int, ds = [.int n] ∧ -(2 ^ 62) ≤ n ∧ n < 2 ^ 62 ∧ Φ (rngD 0 n.toNat) M1) : WI X Γ M (iRng1 (wpA X [a])) Φ := fun P σ H s m => (h P σ H s m).mono fun vs H1 ⟨ds, M1, P1, ⟨n, hd, h1, h2, q⟩, e1, m1, i1⟩ => by
  subst hd
  obtain ⟨v, rfl, hv⟩ := i1.un1
  cases hv
  exact ⟨n, rfl, h1, h2, _, M1, P1, q, e1, m1, itok_rng⟩
theorem wi_R2 (h : WA X Γ M [a, b] fun ds M1 => ∃ lo n : Int, ds = [.int lo, .int n] ∧ (-(2 ^ 62) ≤ lo ∧ lo < 2 ^ 62 ∧ -(2 ^ 62) ≤ n ∧ n < 2 ^ 62) ∧ Φ (rngD lo (n - lo).toNat) M1) : WI X Γ M (iRng2 (wpA X [a, b])) Φ := fun P σ H s m => (h P σ H s m).mono fun vs H1 ⟨ds, M1, P1, ⟨lo, n, hd, h1, q⟩, e1, m1, i1⟩ => by
  subst hd
  obtain ⟨v, v2, rfl, hv, hv2⟩ := i1.un2
  cases hv
  cases hv2
  exact ⟨lo, n, rfl, h1, _, M1, P1, q, e1, m1, itok_rng⟩
end
section
variable {X : Cx} {Γ : Sl} {M : Mem} {Φ : VP} {Ψ : Po} {elt iter tgt iter1 tgt1 : Expr} {scope : Scope} {own : List (Str × Nat)} {vs1 : List Nat} {pos spos py : Pos} {sts : List Stmt} {y : Str} {g g1 : TG} {F F1 : Sl → D → Sl} {fits fits1 : D → Prop} {wi : TI} {wi1 : Cx → TI}
/-- an iterable within a comprehension -/
def iB (X : Cx) (scope : Scope) (wi1 : Cx → TI) : TI := fun σ H R => ∀ s H0 C cl fp, wi1 (blkOf X scope s H0 C cl fp) σ H R
structure Comp2 (X : Cx) (Γ : Sl) (scope : Scope) (own : List (Str × Nat)) (vs1 : List Nat) (F F1 : Sl → D → Sl) (fits fits1 : D → Prop) (wi1 : Cx → TI) (elt : Expr) {α β : Type} (as : List α) (f : α → D) (bs : α → List β) (f1 : α → β → D) (gd : α → β → D) (M1 : Mem) : Prop where
  len : (as.flatMap bs).length < sizeLine
  fit : ∀ a, a ∈ as → fits (f a)
  inner : ∀ a, a ∈ as → ∀ l out s H C cl fp, WI (blkOf X scope s H C cl fp) (F (wipeD Γ (own.map (·.2))) (f a)) ((l, .lst out) :: M1) (wi1 (blkOf X scope s H C cl fp)) fun ys M2 => ys = (bs a).map (f1 a) ∧ M2 = (l, .lst out) :: M1
  fit1 : ∀ a, a ∈ as → ∀ b, b ∈ bs a → fits1 (f1 a b)
  item : ∀ a, a ∈ as → ∀ b, b ∈ bs a → ∀ l out s H C cl fp, WE (blkOf X scope s H C cl fp) (F1 (wipeD (F (wipeD Γ (own.map (·.2))) (f a)) vs1) (f1 a b)) ((l, .lst out) :: M1) elt fun z M2 => z = gd a b ∧ M2 = (l, .lst out) :: M1
theorem flat_map_len {α β γ : Type} {bs : α → List β} {gd : α → β → γ} : ∀ as : List α, (as.flatMap fun a => (bs a).map (gd a)).length = (as.flatMap bs).length
  | [] => rfl
  | a :: as => by rw [List.flatMap_cons, List.flatMap_cons, List.length_append, List.length_append, List.length_map, flat_map_len as]
theorem flat_take_le {α β : Type} {bs : α → List β} {as : List α} {i : Nat} {a : α} (h : as[i]? = some a) : ((as.take i).flatMap bs).length + (bs a).length ≤ (as.flatMap bs).length := by
  obtain ⟨hi, e⟩ := List.getElem?_eq_some_iff.mp h
  have h1 : as = as.take (i + 1) ++ as.drop (i + 1) := (List.take_append_drop _ _).symm
  have h2 : as.flatMap bs = (as.take (i + 1)).flatMap bs ++ (as.drop (i + 1)).flatMap bs := by
    rw [← List.flatMap_append, ← h1]
  rw [h2, take_1 h, List.flatMap_append, List.length_append, List.length_append]
  simp
theorem ts_nil {σ : L2.St} {H : Hp} {Q : Bool → Hp → Prop} (q : Q true H) : tsB X scope [] σ H Q := fun s H0 C cl fp pins sh I => (pts_nil (X := blkOf X scope s H0 C cl fp)).run pins sh σ H _ I q
theorem lc2_coreD {α β : Type} {as : List α} {f : α → D} {bs : α → List β} {f1 : α → β → D} {gd : α → β → D} {R : Addr → List D → Mem → Prop} (tg : TgOk X.K (own.map (·.2)) g F fits) (tg1 : TgOk X.K vs1 g1 F1 fits1)
    (h : WI X Γ M wi fun xs M1 => xs = as.map f ∧ Comp2 X Γ scope own vs1 F F1 fits fits1 wi1 elt as f bs f1 gd M1 ∧ ∀ l, R l (as.flatMap fun a => (bs a).map (gd a)) M1)
    {P H : Hp} {σ : L2.St} {Q : VK} (s : SOk X.K Γ P σ) (m : MOk X.K M P H) (q : ∀ l out M' P' H', R l out M' → Ex P P' → MOk X.K ((l, .lst out) :: M') P' H' → Q (.ref l) H')
    (hmono : ∀ {R1 R2 : It → Hp → Prop}, (∀ J H, R1 J H → R2 J H) → wi σ H R1 → wi σ H R2) (hmono1 : ∀ (Y : Cx) {σ : L2.St} {H : Hp} {R1 R2 : It → Hp → Prop}, (∀ J H, R1 J H → R2 J H) → wi1 Y σ H R1 → wi1 Y σ H R2) : tLc2 wi g (tsB X scope []) (iB X scope wi1) g1 (tsB X scope []) (teB X scope elt) (own.map (·.2)) vs1 σ H Q := by
  refine hmono (fun J H1 ⟨xs, M1, P1, ⟨hx, hC, hR⟩, e1, m1, it⟩ => ?_) (h P σ H s m)
  subst hx
  intro l hn
  refine ⟨fun i n H' => n = as.length - i ∧ i ≤ as.length ∧ LcInv X.K P1 l (fun out M' => out = (as.take i).flatMap (fun a => (bs a).map (gd a)) ∧ M' = M1) H', ⟨as.length, rfl, Nat.zero_le _, [], M1, P1, ⟨rfl, rfl⟩, Same.refl P1, m1.own hn ⟨[], upd_same, .nil⟩⟩, ?_⟩
  rintro i n H' ⟨rfl, hi, out, M', P', ⟨rfl, rfl⟩, e', m'⟩
  rcases Nat.lt_or_eq_of_le hi with hlt | rfl
  · refine .inr ⟨it.go i H' (by rw [List.length_map]; exact hlt) (e'.trans m'.ex), fun H2 => LcInv X.K P1 l (fun out M2 => out = (as.take (i + 1)).flatMap (fun a => (bs a).map (gd a)) ∧ M2 = M') H2, fun H2 z => ⟨as.length - (i + 1), by omega, rfl, hlt, z⟩, ?_⟩
    intro x H2 hy
    obtain ⟨rfl, y, hy2, iy⟩ := it.yld i H' x H2 (e'.trans m'.ex) (by rw [List.length_map]; exact hlt) hy
    obtain ⟨a, ha, rfl⟩ := getMap hy2
    have hm := List.mem_of_getElem? ha
    refine tg P' _ H2 _ (f a) x _ m'.ex (sok_wipe (s.mono (e1.trans e')) (own.map (·.2))) (iy.mono e') (hC.fit a hm) fun σ2 s2 w2 => ⟨by rw [w2, wipe_wipe], ts_nil (iteT ?_)⟩
    intro s0 H0 C cl fp
    refine hmono1 _ (fun J1 H3 ⟨ys, M3, P3, ⟨hys, hM3⟩, e3, m3, it1⟩ => ?_) (hC.inner a hm l _ s0 H0 C cl fp P' σ2 H2 s2 m')
    subst hys hM3
    have hle := flat_take_le (bs := bs) ha
    refine ⟨fun j k H4 => k = (bs a).length - j ∧ j ≤ (bs a).length ∧ LcInv X.K P3 l (fun out M2 => out = (as.take i).flatMap (fun a => (bs a).map (gd a)) ++ ((bs a).take j).map (gd a) ∧ M2 = M') H4, ⟨(bs a).length, rfl, Nat.zero_le _, _, M', P3, ⟨by simp, rfl⟩, Same.refl P3, m3⟩, ?_⟩
    rintro j k H4 ⟨rfl, hj, out4, M4, P4, ⟨rfl, rfl⟩, e4, m4⟩
    rcases Nat.lt_or_eq_of_le hj with hjl | rfl
    · refine .inr ⟨it1.go j H4 (by rw [List.length_map]; exact hjl) (e4.trans m4.ex), fun H5 => LcInv X.K P3 l (fun out M2 => out = (as.take i).flatMap (fun a => (bs a).map (gd a)) ++ ((bs a).take (j + 1)).map (gd a) ∧ M2 = M4) H5, fun H5 z => ⟨(bs a).length - (j + 1), by omega, rfl, hjl, z⟩, ?_⟩
      intro x1 H5 hy1
      obtain ⟨rfl, y1, hy3, iy1⟩ := it1.yld j H4 x1 H5 (e4.trans m4.ex) (by rw [List.length_map]; exact hjl) hy1
      obtain ⟨b, hb, rfl⟩ := getMap hy3
      have hbm := List.mem_of_getElem? hb
      refine tg1 P4 _ H5 _ (f1 a b) x1 _ m4.ex (sok_wipe (s2.mono (e3.trans e4)) vs1) (iy1.mono e4) (hC.fit1 a hm b hbm) fun σ3 s3 w3 => ⟨by rw [w3, wipe_wipe], ?_⟩
      refine lc_turn (J := fun out M2 => out = (as.take i).flatMap (fun a => (bs a).map (gd a)) ++ ((bs a).take (j + 1)).map (gd a) ∧ M2 = M4) ?_ e4 s3 m4
      intro s0 H0 C cl fp
      refine wts_nil ⟨fun _ s0 H0 C cl fp => ?_, fun z => by cases z⟩
      refine (hC.item a hm b hbm l _ s0 H0 C cl fp).mono fun z M5 ⟨hz, hM5⟩ => ⟨M4, hM5, ?_, ?_, rfl⟩
      · have h1 := hC.len
        rw [List.length_append, List.length_map, List.length_take, flat_map_len]
        omega
      · rw [take_1 hb, List.map_append, hz, List.append_assoc]
        rfl
    · refine .inl ⟨by have z := it1.stop H4 (e4.trans m4.ex); rw [List.length_map] at z; exact z, ?_⟩
      refine ⟨_, M4, P4, ⟨?_, rfl⟩, (e'.trans e3).trans e4, m4⟩
      rw [List.take_length, take_1 ha, List.flatMap_append]
      simp
  · refine .inl ⟨by have z := it.stop H' (e'.trans m'.ex); rw [List.length_map] at z; exact z, ?_⟩
    rw [List.take_length] at m'
    exact q l _ M' P' H' (hR l) (e1.trans e') m'
end
section
variable {X : Cx} {Γ : Sl} {M : Mem} {Φ : VP} {Ψ : Po} {elt iter tgt iter1 tgt1 a b a1 b1 : Expr} {scope : Scope} {own : List (Str × Nat)} {vs1 : List Nat} {pos spos py p pos2 p1 pos3 : Pos} {sts : List Stmt} {y : Str} {g g1 : TG} {F F1 : Sl → D → Sl} {fits fits1 : D → Prop}
abbrev CmpX (X : Cx) (scope : Scope) (g : TG) (tg : Expr) : Prop := ∀ (s : Shared) (H : Hp) (C : Addr) (cl : List (Str × Addr)) (fp : List Addr), PG (X.blk s H scope (compEnvC scope cl C X.env) fp) tg g
/-- y = [elt for t in range(a, b) for t1 in range(a1, b1)] -/
theorem ws_RR (iy : Nat) (hN : X.N.Nodup) (hm : X.mg "range" = none) {α β : Type} {as : List α} {f : α → D} {bs : α → List β} {f1 : α → β → D} {gd : α → β → D} (tg : TgOk X.K (own.map (·.2)) g F fits) (tg1 : TgOk X.K vs1 g1 F1 fits1)
    (h : WI X Γ M (iRng2 (wpA X [a, b])) fun xs M1 => xs = as.map f ∧ Comp2 X Γ scope own vs1 F F1 fits fits1 (fun Y => iRng2 (wpA Y [a1, b1])) elt as f bs f1 gd M1 ∧ ∀ l, WS X (Γ.set iy (some (.adr l))) ((l, .lst (as.flatMap fun a => (bs a).map (gd a))) :: M1) sts Ψ)
    (ok : BlkOk X.N X.env.scope scope own) (hg : CmpX X scope g tgt) (hg1 : CmpX X scope g1 tgt1) (hv : ∀ i ∈ vs1, i ∈ own.map (·.2) := by decide)
    (hsw : swapsWith (.ListComp elt [⟨tgt, .Call (.Name "range" p) [a, b] [] pos2, [], 0⟩, ⟨tgt1, .Call (.Name "range" p1) [a1, b1] [] pos3, [], 0⟩] scope pos) (some (.Name y py)) spos.line X.env = pure true := by exact sw_true rfl rfl rfl (by decide +kernel)) (hc : X.calm = true := by rfl) (hy : X.N[iy]? = some y := by rfl) (hyl : X.env.scope.names.lookup y = some .local := by rfl)
    (hg0 : Gl X "range" := by rfl) (hgB : ∀ (s : Shared) (H : Hp) (C : Addr) (cl : List (Str × Addr)) (fp : List Addr), Gl (blkOf X scope s H C cl fp) "range" := by intros; rfl)
    (hst : starEach [a, b] X.env = [(false, eval a X.env), (false, eval b X.env)] := by rfl) (hst2 : starEach [b] X.env = [(false, eval b X.env)] := by rfl) (hst3 : ∀ env : Env, starEach [a1, b1] env = [(false, eval a1 env), (false, eval b1 env)] := by intros; rfl) (hst4 : ∀ env : Env, starEach [b1] env = [(false, eval b1 env)] := by intros; rfl)
    (hs : ∀ x, foldedSetIterable (.Call (.Name "range" p) [a, b] [] pos2) X.env x = pure x := by intro _; rfl) (hs1 : ∀ env x, foldedSetIterable (.Call (.Name "range" p1) [a1, b1] [] pos3) env x = pure x := by intro _ _; rfl) :
    WS X Γ M (.Assign [.Name y py] (.ListComp elt [⟨tgt, .Call (.Name "range" p) [a, b] [] pos2, [], 0⟩, ⟨tgt1, .Call (.Name "range" p1) [a1, b1] [] pos3, [], 0⟩] scope pos) spos :: sts) Ψ := ws_cons fun P σ H s m =>
  wpS_of (ps_setLc2 (i := iy) (tt := tsB X scope []) (tt1 := tsB X scope []) (te := teB X scope elt) (wi1 := iB X scope fun Y => iRng2 (wpA Y [a1, b1])) hc hN hy hyl hsw (pi_range2 hg0 hm pa_wp hst hst2) ok hv hg (fun s0 H0 C cl fp => ⟨fun pins sh σ' H' Q I q => q s0 H0 C cl fp pins sh I⟩)
      (fun s0 H0 C cl fp => ⟨fun pins sh σ' H' R I q => (pi_range2 (X := blkOf X scope s0 H0 C cl fp) (hgB s0 H0 C cl fp) hm pa_wp (hst3 _) (hst4 _)).run pins sh σ' H' R I (q s0 H0 C cl fp)⟩) hg1 (fun s0 H0 C cl fp => ⟨fun pins sh σ' H' Q I q => q s0 H0 C cl fp pins sh I⟩) (fun s0 H0 C cl fp => ⟨fun pins sh σ' H' Q I q => q s0 H0 C cl fp pins sh I⟩) hs hs1)
    (lc2_coreD (R := fun l out M' => WS X (Γ.set iy (some (.adr l))) ((l, .lst out) :: M') sts Ψ) tg tg1 h s m (fun l out M' P' H' r e m' => ⟨_, _, P', r, e, (s.mono e).set .adr, m'⟩) (fun {R1 R2} hR h => wpA.mono h fun vs H1 ⟨i, j, a1, a2, a3⟩ => ⟨i, j, a1, a2, hR _ _ a3⟩) (fun Y {σ H R1 R2} hR h => wpA.mono h fun vs H1 ⟨i, j, a1, a2, a3⟩ => ⟨i, j, a1, a2, hR _ _ a3⟩))
/-- [elt for t in range(a, b) for t1 in range(a1, b1)] -/
theorem we_RR (hN : X.N.Nodup) (hm : X.mg "range" = none) {α β : Type} {as : List α} {f : α → D} {bs : α → List β} {f1 : α → β → D} {gd : α → β → D} (tg : TgOk X.K (own.map (·.2)) g F fits) (tg1 : TgOk X.K vs1 g1 F1 fits1)
    (h : WI X Γ M (iRng2 (wpA X [a, b])) fun xs M1 => xs = as.map f ∧ Comp2 X Γ scope own vs1 F F1 fits fits1 (fun Y => iRng2 (wpA Y [a1, b1])) elt as f bs f1 gd M1 ∧ ∀ l, Φ (.adr l) ((l, .lst (as.flatMap fun a => (bs a).map (gd a))) :: M1))
    (ok : BlkOk X.N X.env.scope scope own) (hg : CmpX X scope g tgt) (hg1 : CmpX X scope g1 tgt1) (hv : ∀ i ∈ vs1, i ∈ own.map (·.2) := by decide) (hc : X.calm = true := by rfl)
    (hg0 : Gl X "range" := by rfl) (hgB : ∀ (s : Shared) (H : Hp) (C : Addr) (cl : List (Str × Addr)) (fp : List Addr), Gl (blkOf X scope s H C cl fp) "range" := by intros; rfl)
    (hst : starEach [a, b] X.env = [(false, eval a X.env), (false, eval b X.env)] := by rfl) (hst2 : starEach [b] X.env = [(false, eval b X.env)] := by rfl) (hst3 : ∀ env : Env, starEach [a1, b1] env = [(false, eval a1 env), (false, eval b1 env)] := by intros; rfl) (hst4 : ∀ env : Env, starEach [b1] env = [(false, eval b1 env)] := by intros; rfl)
    (hs : ∀ x, foldedSetIterable (.Call (.Name "range" p) [a, b] [] pos2) X.env x = pure x := by intro _; rfl) (hs1 : ∀ env x, foldedSetIterable (.Call (.Name "range" p1) [a1, b1] [] pos3) env x = pure x := by intro _ _; rfl) :
    WE X Γ M (.ListComp elt [⟨tgt, .Call (.Name "range" p) [a, b] [] pos2, [], 0⟩, ⟨tgt1, .Call (.Name "range" p1) [a1, b1] [] pos3, [], 0⟩] scope pos) Φ := fun P σ H s m =>
  wpT_of (pe_lc2 (tt := tsB X scope []) (tt1 := tsB X scope []) (te := teB X scope elt) (wi1 := iB X scope fun Y => iRng2 (wpA Y [a1, b1])) hc hN (pi_range2 hg0 hm pa_wp hst hst2) ok hv hg (fun s0 H0 C cl fp => ⟨fun pins sh σ' H' Q I q => q s0 H0 C cl fp pins sh I⟩)
      (fun s0 H0 C cl fp => ⟨fun pins sh σ' H' R I q => (pi_range2 (X := blkOf X scope s0 H0 C cl fp) (hgB s0 H0 C cl fp) hm pa_wp (hst3 _) (hst4 _)).run pins sh σ' H' R I (q s0 H0 C cl fp)⟩) hg1 (fun s0 H0 C cl fp => ⟨fun pins sh σ' H' Q I q => q s0 H0 C cl fp pins sh I⟩) (fun s0 H0 C cl fp => ⟨fun pins sh σ' H' Q I q => q s0 H0 C cl fp pins sh I⟩) hs hs1)
    (lc2_coreD (R := fun l out M' => Φ (.adr l) ((l, .lst out) :: M')) tg tg1 h s m (fun l out M' P' H' r e m' => ⟨_, _, P', r, e, m', .adr⟩) (fun {R1 R2} hR h => wpA.mono h fun vs H1 ⟨i, j, a1, a2, a3⟩ => ⟨i, j, a1, a2, hR _ _ a3⟩) (fun Y {σ H R1 R2} hR h => wpA.mono h fun vs H1 ⟨i, j, a1, a2, a3⟩ => ⟨i, j, a1, a2, hR _ _ a3⟩))
/-- [elt for t in tuple for t1 in list] -/
theorem we_TL (hN : X.N.Nodup) {α β : Type} {as : List α} {f : α → D} {bs : α → List β} {f1 : α → β → D} {gd : α → β → D} (tg : TgOk X.K (own.map (·.2)) g F fits) (tg1 : TgOk X.K vs1 g1 F1 fits1)
    (h : WI X Γ M (iTup X.K (wpT X iter)) fun xs M1 => xs = as.map f ∧ Comp2 X Γ scope own vs1 F F1 fits fits1 (fun Y => iList Y.K (wpT Y iter1)) elt as f bs f1 gd M1 ∧ ∀ l, Φ (.adr l) ((l, .lst (as.flatMap fun a => (bs a).map (gd a))) :: M1))
    (ok : BlkOk X.N X.env.scope scope own) (hg : CmpX X scope g tgt) (hg1 : CmpX X scope g1 tgt1) (hv : ∀ i ∈ vs1, i ∈ own.map (·.2) := by decide) (hc : X.calm = true := by rfl)
    (hs : ∀ x, foldedSetIterable iter X.env x = pure x := by intro _; rfl) (hs1 : ∀ env x, foldedSetIterable iter1 env x = pure x := by intro _ _; rfl) :
    WE X Γ M (.ListComp elt [⟨tgt, iter, [], 0⟩, ⟨tgt1, iter1, [], 0⟩] scope pos) Φ := fun P σ H s m =>
  wpT_of (pe_lc2 (tt := tsB X scope []) (tt1 := tsB X scope []) (te := teB X scope elt) (wi1 := iB X scope fun Y => iList Y.K (wpT Y iter1)) hc hN (pi_tup pe_wp) ok hv hg (fun s0 H0 C cl fp => ⟨fun pins sh σ' H' Q I q => q s0 H0 C cl fp pins sh I⟩)
      (fun s0 H0 C cl fp => ⟨fun pins sh σ' H' R I q => (pi_list (X := blkOf X scope s0 H0 C cl fp) pe_wp).run pins sh σ' H' R I (q s0 H0 C cl fp)⟩) hg1 (fun s0 H0 C cl fp => ⟨fun pins sh σ' H' Q I q => q s0 H0 C cl fp pins sh I⟩) (fun s0 H0 C cl fp => ⟨fun pins sh σ' H' Q I q => q s0 H0 C cl fp pins sh I⟩) hs hs1)
    (lc2_coreD (R := fun l out M' => Φ (.adr l) ((l, .lst out) :: M')) tg tg1 h s m (fun l out M' P' H' r e m' => ⟨_, _, P', r, e, m', .adr⟩) (fun {R1 R2} hR h => wpT.mono h fun v H1 ⟨a, a1, a2, a3⟩ => ⟨a, a1, a2, hR _ _ a3⟩) (fun Y {σ H R1 R2} hR h => wpT.mono h fun v H1 ⟨a, a1, a2, a3⟩ => ⟨a, a1, a2, hR _ _ a3⟩))
end
end Dt
namespace Dt
open PySem PySem.Spec PyProof.Rows L2
theorem cd_intB {X : Cx} {M : Mem} {Φ : VP} {b : Bool} (q : Φ (.int (if b then 1 else 0)) M) : CaD X (.type "int") [.bl b] M Φ := cd_of call_int1 fun P H vs m h => by
  obtain ⟨v, rfl, hv⟩ := h.un1
  cases hv
  exact .inr ⟨b, rfl, .one q m .int⟩
theorem rngD_map : ∀ (n : Nat) (lo : Int), rngD lo n = (rn lo n).map D.int
  | 0, lo => rfl
  | n + 1, lo => by
    refine List.ext_getElem? fun i => ?_
    by_cases hi : i < n + 1
    · rw [rngD_get (n + 1) i lo hi, List.getElem?_map]
      unfold rn
      rw [List.getElem?_map, List.getElem?_range hi]
      rfl
    · rw [List.getElem?_eq_none (by rw [rngD_len]; omega), List.getElem?_eq_none (by rw [List.length_map, rn_len]; omega)]
theorem mem_rn {lo k : Int} {n : Nat} : k ∈ rn lo n ↔ lo ≤ k ∧ k < lo + n := by
  unfold rn
  rw [List.mem_map]
  constructor
  · rintro ⟨j, hj, rfl⟩
    have := List.mem_range.mp hj
    omega
  · intro h
    exact ⟨(k - lo).toNat, List.mem_range.mpr (by omega), by omega⟩
/-! ### cells grown, in plain words -/
def stepsL (lx ly hx hy : Int) : List (Int × Int) := (rn lx (hx + 1 - lx).toNat).flatMap fun x => (rn ly (hy + 1 - ly).toNat).map fun y => (x, y)
def addC (c s : Int × Int) : Int × Int := (c.1 + s.1, c.2 + s.2)
def growL (ks : List (Int × Int)) (lx ly hx hy : Int) : List (Int × Int) := ks.flatMap fun c => (stepsL lx ly hx hy).map (addC c)
theorem mem_steps {lx ly hx hy : Int} {s : Int × Int} : s ∈ stepsL lx ly hx hy ↔ (lx ≤ s.1 ∧ s.1 ≤ hx) ∧ ly ≤ s.2 ∧ s.2 ≤ hy := by
  unfold stepsL
  rw [List.mem_flatMap]
  constructor
  · rintro ⟨x, hx', h⟩
    obtain ⟨y, hy', rfl⟩ := List.mem_map.mp h
    rw [mem_rn] at hx' hy'
    dsimp only
    omega
  · intro h
    exact ⟨s.1, mem_rn.mpr (by omega), List.mem_map.mpr ⟨s.2, mem_rn.mpr (by omega), rfl⟩⟩
theorem mem_grow {ks : List (Int × Int)} {lx ly hx hy : Int} {c : Int × Int} : c ∈ growL ks lx ly hx hy ↔ ∃ d, d ∈ ks ∧ (d.1 + lx ≤ c.1 ∧ c.1 ≤ d.1 + hx) ∧ d.2 + ly ≤ c.2 ∧ c.2 ≤ d.2 + hy := by
  unfold growL
  rw [List.mem_flatMap]
  constructor
  · rintro ⟨d, hd, h⟩
    obtain ⟨s, hs, rfl⟩ := List.mem_map.mp h
    rw [mem_steps] at hs
    refine ⟨d, hd, ?_⟩
    unfold addC
    dsimp only
    omega
  · rintro ⟨d, hd, h⟩
    refine ⟨d, hd, List.mem_map.mpr ⟨(c.1 - d.1, c.2 - d.2), mem_steps.mpr (by dsimp only; omega), ?_⟩⟩
    unfold addC
    dsimp only
    refine Prod.ext ?_ ?_ <;> dsimp only <;> omega
theorem flat_const {α β : Type} {L : List β} : ∀ as : List α, (as.flatMap fun _ => L).length = as.length * L.length
  | [] => by simp
  | a :: as => by
    rw [List.flatMap_cons, List.length_append, flat_const as, List.length_cons, Nat.succ_mul, Nat.add_comm]
theorem steps_len {lx ly hx hy : Int} : (stepsL lx ly hx hy).length = (hx + 1 - lx).toNat * (hy + 1 - ly).toNat := by
  unfold stepsL
  rw [flat_map_len (bs := fun _ => rn ly (hy + 1 - ly).toNat) (gd := fun x y => (x, y)), flat_const, rn_len, rn_len]
theorem grow_len {ks : List (Int × Int)} {lx ly hx hy : Int} : (growL ks lx ly hx hy).length = ks.length * (stepsL lx ly hx hy).length := by
  unfold growL
  rw [flat_map_len (bs := fun _ => stepsL lx ly hx hy) (gd := addC), flat_const]
def Box (a1 a2 b1 b2 : Int) (ks : List (Int × Int)) : Prop := ∀ c, c ∈ ks → (a1 ≤ c.1 ∧ c.1 ≤ a2) ∧ b1 ≤ c.2 ∧ c.2 ≤ b2
theorem Box.grow {a1 a2 b1 b2 lx ly hx hy : Int} {ks : List (Int × Int)} (h : Box a1 a2 b1 b2 ks) : Box (a1 + lx) (a2 + hx) (b1 + ly) (b2 + hy) (growL ks lx ly hx hy) := fun c hc => by
  obtain ⟨d, hd, h2⟩ := mem_grow.mp hc
  have := h d hd
  omega
theorem Box.ord {a1 a2 b1 b2 : Int} {ks : List (Int × Int)} (h : Box a1 a2 b1 b2 ks) : Box a1 a2 b1 b2 (ordF ks) := fun c hc => h c (mem_ordF.mp hc)
theorem Box.ok {a1 a2 b1 b2 : Int} {ks : List (Int × Int)} (h : Box a1 a2 b1 b2 ks) (hl : ks.length ≤ 1000) (ha : a2 - a1 ≤ 60) (hb : b2 - b1 ≤ 60) : OrdOk ks := by
  refine ⟨hl, Nat.lt_of_le_of_lt (few (a := a1) (n := 61) fun k hk => ?_) (by decide), fun x => Nat.lt_of_le_of_lt (few (a := b1) (n := 61) fun k hk => ?_) (by decide)⟩
  · obtain ⟨c, hc, rfl⟩ := List.mem_map.mp hk
    have := h c hc
    omega
  · obtain ⟨c, hc, rfl⟩ := List.mem_map.mp hk
    have := h c (List.mem_filter.mp hc).1
    omega
structure GrOk (ks : List (Int × Int)) (lx ly hx hy : Int) : Prop where
  b1 : -(2 ^ 60) ≤ lx ∧ lx < 2 ^ 60
  b2 : -(2 ^ 60) ≤ ly ∧ ly < 2 ^ 60
  b3 : -(2 ^ 60) ≤ hx ∧ hx < 2 ^ 60
  b4 : -(2 ^ 60) ≤ hy ∧ hy < 2 ^ 60
  st : (stepsL lx ly hx hy).length ≤ 1000
  ok : OrdOk (growL ks lx ly hx hy)
theorem mul_le16 {a b : Nat} (ha : a ≤ 4) (hb : b ≤ 4) : a * b ≤ 16 := Nat.mul_le_mul ha hb
theorem grok {ks : List (Int × Int)} {a1 a2 c1 c2 lx ly hx hy : Int} (hb : Box a1 a2 c1 c2 ks) (hl : ks.length ≤ 8) (hx' : hx - lx ≤ 3) (hy' : hy - ly ≤ 3) (hx2 : -4 ≤ hx - lx) (hy2 : -4 ≤ hy - ly) (ha : a2 - a1 ≤ 50) (hc : c2 - c1 ≤ 50) (l1 : -(2 ^ 55) ≤ lx ∧ lx < 2 ^ 55) (l2 : -(2 ^ 55) ≤ ly ∧ ly < 2 ^ 55) : GrOk ks lx ly hx hy := by
  have hs : (stepsL lx ly hx hy).length ≤ 16 := by
    rw [steps_len]
    exact mul_le16 (by omega) (by omega)
  have hg : (growL ks lx ly hx hy).length ≤ 8 * 16 := by
    rw [grow_len]
    exact Nat.mul_le_mul hl hs
  exact ⟨by omega, by omega, by omega, by omega, by omega, (hb.grow (lx := lx) (ly := ly) (hx := hx) (hy := hy)).ok (by omega) (by omega) (by omega)⟩
theorem lex_shift {dx dy : Int} {ks : List (Int × Int)} (h : ks.Pairwise lexP) : (ks.map fun c => (c.1 + dx, c.2 + dy)).Pairwise lexP := by
  rw [List.pairwise_map]
  refine h.imp fun {a b} q => ?_
  unfold lexP at q ⊢
  dsimp only
  omega
theorem grow_one {ks : List (Int × Int)} {dx dy : Int} (h : ks.Pairwise lexP) : ordF (growL ks dx dy dx dy) = ks.map fun c => (c.1 + dx, c.2 + dy) := lex_eq _ _ (pw_ordF _) (lex_shift h) fun c => by
  rw [mem_ordF, mem_grow, List.mem_map]
  constructor
  · rintro ⟨d, hd, h2⟩
    exact ⟨d, hd, Prod.ext (by dsimp only; omega) (by dsimp only; omega)⟩
  · rintro ⟨d, hd, rfl⟩
    exact ⟨d, hd, by dsimp only; omega⟩
theorem ord_one_len {ks : List (Int × Int)} {dx dy : Int} (h : ks.Pairwise lexP) : (ordF (growL ks dx dy dx dy)).length = ks.length := by
  rw [grow_one h, List.length_map]
theorem grow_two {ks : List (Int × Int)} {x y u v p q : Int} : ordF (growL (ordF (growL ks x y x y)) u v p q) = ordF (growL ks (x + u) (y + v) (x + p) (y + q)) := ordF_congr fun c => by
  rw [mem_grow, mem_grow]
  constructor
  · rintro ⟨d, hd, h2⟩
    rw [mem_ordF, mem_grow] at hd
    obtain ⟨e, he, h3⟩ := hd
    exact ⟨e, he, by omega⟩
  · rintro ⟨d, hd, h2⟩
    refine ⟨(d.1 + x, d.2 + y), mem_ordF.mpr (mem_grow.mpr ⟨d, hd, by dsimp only; omega⟩), by dsimp only; omega⟩
theorem grow_none {ks : List (Int × Int)} {x y : Int} : ordF (growL ks x y x (y - 1)) = [] := by
  refine lex_eq _ _ (pw_ordF _) List.Pairwise.nil fun c => ?_
  rw [mem_ordF, mem_grow]
  constructor
  · rintro ⟨d, hd, h⟩
    omega
  · intro h
    cases h
theorem grow_ord {cs : List (Int × Int)} {lx ly hx hy : Int} : ordF (growL (ordF cs) lx ly hx hy) = ordF (growL cs lx ly hx hy) := ordF_congr fun c => by
  rw [mem_grow, mem_grow]
  simp only [mem_ordF]
end Dt

set_option Elab.async false
set_option linter.all false
set_option maxRecDepth 100000
set_option maxHeartbeats 2000000
/-! Dt, part 45: == of data with an own object, by the object's own __eq__; such an object in a tuple of data. -/
namespace Dt
open PySem PySem.Spec PyProof.Rows L2
section
theorem tup_decl (l x : Addr) (items : Array Value) (n : Nat) (dd : Option Addr) (sl : Array (Option Value)) :
    Meets (Builtin.«tuple.__eq__» ⟨[.ref l, .ref x], []⟩) (fun _ R s => s.heap.get? l = some { cls := .type "tuple", dict := dd, data := .seq items n, slots := sl } ∧ (∀ M : Model, PySem.W.Looks M s.heap (isInstance (.ref x) (.type "tuple")) false) ∧ R (.ok (.ret .notImplemented)) s) :=
  .of_wp fun prog w A R s h => by
    obtain ⟨hp, g, d, tk, os⟩ := s
    obtain ⟨hl, hI, h⟩ := h
    have q1 : ∀ {A1 : Around} {E1 : Value → Shared → Prop} {Q1 : Bool → Shared → Prop}, Q1 false ⟨hp, g, d, tk, os⟩ → wpAny (model prog w) A1 (isInstance (.ref x) (.type "tuple")) Q1 E1 ⟨hp, g, d, tk, os⟩ := fun q => (hI _).here q
    wp_walk using wpAny_loadPart' hl, q1
    exact ⟨_, rfl, h⟩
theorem str_decl (b : Str) (u : Tok) (x : Addr) (c : Value) (dd : Option Addr) (sl : Array (Option Value)) :
    Meets (Builtin.«str.__eq__» ⟨[.str b u, .ref x], []⟩) (fun _ R s => s.heap.get? x = some { cls := c, dict := dd, data := .plain, slots := sl } ∧ R (.ok (.ret .notImplemented)) s) :=
  .of_wp fun prog w A R s h => by
    obtain ⟨hp, g, d, tk, os⟩ := s
    obtain ⟨hl, h⟩ := h
    wp_walk using wpAny_loadPart' hl, wpAny_load hl
    exact ⟨_, rfl, h⟩
variable {prog : Program} {w : World} {A : Around} {E : Value → Shared → Prop} {s : Shared} {K : PySem.W.Frag} {x C f : Addr} {ox : Obj} {od : Option Obj} {a : Value}
/-- a == o: a declines, o's own __eq__ answers -/
theorem rc_back {Ta ida : String} {Q : Value → Shared → Prop} (X : K.In s.heap) (I : PySem.W.InstAt s.heap x ox C od) (ha : s.TypeIs a Ta) (h1 : Slot Ta (cmpInfo .Eq).2.1 ida) (hsub : PySem.W.subIn K (.ref C) (.type Ta) = some false)
    (hc1 : ∀ Q' : Value → Shared → Prop, Q' .notImplemented s → wpAny (model prog w) A (call (.builtin ida) [a, .ref x]) Q' E s) (he : PySem.W.findIn K (.ref C) "__eq__" = some (some (.ref f))) (hf : PySem.W.isFn K (.ref f) = true) (hu : A.units < cLine)
    (h : wpAny (model prog w) A (call (.ref f) [.ref x, a]) (PySem.W.CmpBack Q) E s) : wpAny (model prog w) A (richCompare .Eq a (.ref x)) Q E s := by
  have two : wpAny (model prog w) A (tryCompare (.ref x) "__eq__" a) (fun r s' => ∃ v, r = some v ∧ Q v s') E s := by
    unfold tryCompare
    refine wpAny_bind (PySem.W.ifBound_K X I he hf (wpAny_mono h (fun v s' hv => ?_) fun _ _ e => e))
    cases v <;> first | exact hv.elim | exact wpAny_pure ⟨_, rfl, hv⟩
  have hne : (Value.type Ta != Value.ref C) = true := rfl
  simp only [richCompare, ha.oneThing_none]
  refine wpAny_holding (wpAny_bind (wpAny_cRoomFor hu ?_))
  show wpAny _ A (typeOf a >>= _) Q E s
  refine wpAny_bind (wpAny_typeOf ha (wpAny_bind (I.type.here ?_)))
  simp only [hne, if_true]
  refine wpAny_bind ((PySem.W.looks_subIn X hsub).here ?_)
  simp only [Bool.false_eq_true, if_false, Bool.not_false, if_true]
  refine wpAny_bind (m := tryCompare a _ (.ref x)) (wpAny_tryCompare_declines ha h1 (hc1 _ ⟨rfl, ?_⟩))
  refine wpAny_bind (m := tryCompare (.ref x) _ a) (wpAny_mono two (fun r s' ⟨v, hv, hq⟩ => ?_) fun _ _ e => e)
  subst hv
  exact wpAny_pure hq
theorem eqb_back {Q : Bool → Shared → Prop} (hne : (a == Value.ref x) = false) (h : wpAny (model prog w) A (richCompare .Eq a (.ref x)) (fun v s' => ∃ r, v = .bool r ∧ Q r s') E s) : wpAny (model prog w) A (eqBool a (.ref x)) Q E s := by
  unfold eqBool
  refine wpAny_holding ?_
  refine wpAny_ite_split (fun hab => absurd hab (by rw [hne]; exact Bool.false_ne_true)) (fun _ => ?_)
  cases a <;> (refine wpAny_bind (wpAny_mono h (fun v s' hv => ?_) fun _ _ z => z); obtain ⟨r, rfl, q⟩ := hv; exact wpAny_truthy_bool q)
/-- no item of a tuple equals o -/
theorem tup_lacks {t : Addr} {items : Array Value} {P : PySem.Fin → Shared → Prop} (J : List Value → Shared → Prop) (ht : IsTup s.heap t items) (step : ∀ y rest s', J (y :: rest) s' → wpAny (model prog w) A (eqBool y (.ref x)) (fun b s2 => b = false ∧ J rest s2) E s') (h0 : J items.toList s)
    (h : ∀ s', J [] s' → P (.done (.ret (.bool false))) s') : wpAny (model prog w) A (Builtin.«tuple.__contains__» ⟨[.ref t, .ref x], []⟩) P E s := by
  show wpAny _ _ (Builtin.Tuple.tupleItemsOf (.ref t) >>= _) _ _ s
  refine wpAny_bind (tupleItemsOf_ ht ?_)
  refine wpAny_bind (forIn_array_ _ (fun rest b s' => b.1 = none ∧ J rest s') _ ?_ ?_ items _ ⟨rfl, h0⟩)
  · rintro y rest b s' ⟨hb, hJ⟩
    refine wpAny_bind (wpAny_mono (step y rest s' hJ) (fun b2 s2 ⟨h1, h2⟩ => ?_) fun _ _ z => z)
    subst h1
    exact wpAny_pure ⟨rfl, h2⟩
  · rintro ⟨b1, b2⟩ s' ⟨hb, hJ⟩
    simp only at hb
    subst hb
    exact wpAny_pure (h s' hJ)
end
section
variable {X : Cx} {M : Mem} {Φ : VP} {x : D} {k : Nat} {C : Addr} {fs : List (Str × D)} {S : DS}
/-- data that declines an own object -/
inductive BackD (K : PySem.W.Frag) (C : Addr) : D → Prop
  | tup {xs : List D} (h : PySem.W.subIn K (.ref C) (.type "tuple") = some false) : BackD K C (.tup xs)
  | str {z : Str} (h : PySem.W.subIn K (.ref C) (.type "str") = some false) : BackD K C (.str z)
  | non (h : PySem.W.subIn K (.ref C) (.type "NoneType") = some false) : BackD K C .non
theorem eqb_data {pins : List (Addr × Obj)} {σ : L2.St} {P H : Hp} {s : Shared} {vx vy : V} {ux uy : Value} {y : D} (F : HasMe X.prog X.w X.K X.mg X.base k C "__eq__" S) (hr : Room (k + 1) X.A) (ho : ObjD M x C fs) (hy : BackD X.K C y) (I : Inv X pins σ H s) (m : MOk X.K M P H) (ix : IsD X.K P vx x) (iy : IsD X.K P vy y) (rx : RelV vx ux) (ry : RelV vy uy)
    (h : S [x, y] M fun r M1 => r = .bl false ∧ M1 = M) : wpAny (model X.prog X.w) X.A.in1 (eqBool uy ux) (fun b s2 => b = false ∧ ∃ P2 H2, Ex P P2 ∧ MOk X.K M P2 H2 ∧ Inv X pins σ H2 s2) X.xe s := by
  obtain ⟨f, fd, ps, F1, hm, hb⟩ := F
  obtain ⟨a1, dx, od, rfl, rfl, J⟩ := inst_of ho m ix I rx
  have fin : wpAny (model X.prog X.w) X.A.in1 (call (.ref f) [.ref a1, uy]) (PySem.W.CmpBack fun v s' => ∃ r, v = .bool r ∧ r = false ∧ ∃ P2 H2, Ex P P2 ∧ MOk X.K M P2 H2 ∧ Inv X pins σ H2 s') X.xe s := by
    refine thn (run_me1 (vs := [.ref a1, vy]) F1 hr hb I (.cons rfl (.cons ry .nil)) (.cons ix (.cons iy .nil)) m h) fun u2 s2 ⟨v2, H2, I2, r2, d2, M2, P2, ⟨e1, e2⟩, e3, m2, i2⟩ => ?_
    subst e1 e2
    cases i2
    cases r2
    exact ⟨false, rfl, rfl, P2, H2, e3, m2, I2⟩
  have hu : X.A.in1.units < cLine := by
    have := hr.un
    show X.A.units + 1 < cLine
    omega
  cases hy with
  | tup hs =>
    cases iy with
    | @tup a2 vs _ hq hl hi =>
      cases ry
      obtain ⟨its, rv, ht, _⟩ := I.tuple (Same.tupS m.ex hq)
      obtain ⟨⟨cls, dd, data, sl⟩, hob, hc, n, hd⟩ := id ht
      simp only at hc hd
      subst hc hd
      have hne : (Value.ref a2 == Value.ref a1) = false := by
        cases e : (Value.ref a2 == Value.ref a1) with
        | false => rfl
        | true =>
          have e2 : a2 = a1 := by
            have := eq_of_beq e
            injection this
          subst e2
          have e3 := J.at_.symm.trans hob
          cases e3
      refine eqb_back hne (rc_back I.kIn J ht.typeIs PySem.F.slot_tuple_eq hs (fun Q' q => ?_) hm.at_ hm.fn hu (wpAny_mono fin (fun v s' hv => hv) fun _ _ z => z))
      exact call_meets PySem.F.slot_tuple_eq ht.typeIs PySem.F.entry_tuple_eq (PySem.F.args_tuple_eq_2 _ _) (tup_decl a2 a1 _ n dd sl) ⟨hob, fun M' => J.type.andThen (PySem.W.looks_subIn I.kIn hs), q⟩
  | str hs =>
    cases iy
    obtain ⟨t, rfl⟩ := ry
    refine eqb_back rfl (rc_back I.kIn J (typeIs_str _ _ _) PySem.F.slot_str_eq hs (fun Q' q => ?_) hm.at_ hm.fn hu (wpAny_mono fin (fun v s' hv => hv) fun _ _ z => z))
    exact call_meets PySem.F.slot_str_eq (typeIs_str _ _ _) PySem.F.entry_str_eq (PySem.F.args_str_eq_2 _ _) (str_decl _ t a1 _ _ _) ⟨J.at_, q⟩
  | non hs =>
    cases iy
    cases ry
    refine eqb_back rfl (rc_back I.kIn J (show s.TypeIs .none "NoneType" from rfl) PySem.F.slot_NoneType_eq hs (fun Q' q => ?_) hm.at_ hm.fn hu (wpAny_mono fin (fun v s' hv => hv) fun _ _ z => z))
    exact call_gives PySem.F.slot_NoneType_eq (show s.TypeIs .none "NoneType" from rfl) PySem.F.entry_NoneType_eq (PySem.F.args_NoneType_eq_2 _ _) (SeqAt.NoneType___eq___none_ref_0 a1) q
/-- o in (a, b, ..), data that declines: never -/
theorem od_inBack {ys : List D} (F : HasMe X.prog X.w X.K X.mg X.base k C "__eq__" S) (hr : Room (k + 1) X.A) (ho : ObjD M x C fs) (hy : ∀ y, y ∈ ys → BackD X.K C y ∧ S [x, y] M fun r M1 => r = .bl false ∧ M1 = M) (q : Φ (.bl false) M) : OpD X (compareOp .In) x (.tup ys) M Φ := fun P H a b m ia ib pins σ s u w I r1 r2 => by
  obtain ⟨a1, dx, xs1, e1, _, _⟩ := ho.at_ m ia
  subst e1
  cases r1
  cases ib with
  | @tup a2 vs _ hq hl hi =>
    cases r2
    obtain ⟨its, rv, ht, _⟩ := I.tuple (Same.tupS m.ex hq)
    show wpAny _ X.A (do return Value.bool (← contains (.ref a2) (.ref a1))) _ _ s
    refine wpAny_bind (wpAny_contains_slot ht.typeIs PySem.F.slot_tuple_contains (wpAny_call_entry PySem.F.slot_tuple_contains ht.typeIs PySem.F.entry_tuple_contains ?_ (PySem.F.args_tuple_contains_2 _ _)))
    refine tup_lacks (fun rest s' => ∃ (us : List V) (es : List D) (P2 H2 : Hp), Vals us rest ∧ IsDs X.K P2 us es ∧ (∀ y, y ∈ es → y ∈ ys) ∧ Ex P P2 ∧ MOk X.K M P2 H2 ∧ Inv X pins σ H2 s') ht (fun y rest s' hJ => ?_) ⟨vs, ys, P, H, by simpa using rv, ⟨hl, hi⟩, fun _ z => z, Same.refl P, m, I⟩ fun s' hJ => ?_
    · obtain ⟨us, es, P2, H2, rl, il, sub, e2, m2, I2⟩ := hJ
      cases rl with
      | cons r0 rt =>
        rename_i v0 vt
        obtain ⟨d0, hd0, i0⟩ := il.getV (i := 0) rfl
        cases es with
        | nil => cases hd0
        | cons e0 et =>
          simp only [List.getElem?_cons_zero, Option.some.injEq] at hd0
          subst hd0
          obtain ⟨b0, s0⟩ := hy _ (sub _ List.mem_cons_self)
          refine thn (eqb_data F hr ho b0 I2 m2 (ia.mono e2) i0 rfl r0 s0) fun bb s2 ⟨hbb, P3, H3, e3, m3, I3⟩ => ⟨hbb, vt, et, P3, H3, rt, ?_, fun y hy' => sub y (List.mem_cons_of_mem _ hy'), e2.trans e3, m3, I3⟩
          obtain ⟨_, _, hc, _, ht2⟩ := il.uncons
          cases hc
          exact ht2.mono e3
    · obtain ⟨us, es, P2, H2, rl, il, sub, e2, m2, I2⟩ := hJ
      exact ⟨_, rfl, wpAny_truthy_bool (wpAny_pure ⟨.bl false, H2, I2, rfl, _, M, P2, q, e2, m2, .bl⟩)⟩
end
end Dt

set_option Elab.async false
set_option linter.all false
set_option maxRecDepth 100000
set_option maxHeartbeats 2000000
/-! Dt, part 46: is, is not of bools; texts of numbers and of parts with blanks, in plain words. -/
namespace Dt
open PySem PySem.Spec PyProof.Rows L2
section
variable {X : Cx} {M : Mem} {Φ : VP} {a b : Bool}
theorem od_isB (q : Φ (.bl (decide (a = b))) M) : OpD X (compareOp .Is) (.bl a) (.bl b) M Φ := fun P H u v m iu iv => by
  cases iu
  cases iv
  exact opT_of op_is_bl ⟨a, b, rfl, rfl, .one q m .bl⟩
theorem od_isnB (q : Φ (.bl (!decide (a = b))) M) : OpD X (compareOp .IsNot) (.bl a) (.bl b) M Φ := fun P H u v m iu iv => by
  cases iu
  cases iv
  exact opT_of op_isnot_bl ⟨a, b, rfl, rfl, .one q m .bl⟩
end
section
variable {X : Cx} {Γ : Sl} {M : Mem} {a b : Expr} {body : List Stmt} {Ψ : Po} {pos p pos2 tpos : Pos} {elts : List Expr} {kk : Nat}
/-- for x, y in zip(a list, a list) -/
theorem w1_forZL (hp : PassesOwn (model X.prog X.w) X.A X.env X.xe) (hc : X.calm = true) (hg : Gl X "zip") (hm : X.mg "zip" = none)
    (h : WA X Γ M [a, b] fun ds M1 => ∃ (Iv : Nat → Sl → Mem → Prop) (xs ys : List D), ds = [.lst xs, .lst ys] ∧ xs.length = ys.length ∧ Iv 0 Γ M1 ∧ (∀ (i : Nat) (x y : D) Γ' M', xs[i]? = some x → ys[i]? = some y → Iv i Γ' M' → GD X Γ' M' (.Tuple elts kk tpos) (.tup [x, y]) fun Γ2 M2 => WS X Γ2 M2 body { Ψ with nx := Iv (i + 1), ct := Iv (i + 1), bk := Ψ.nx }) ∧ ∀ Γ' M', Iv xs.length Γ' M' → Ψ.nx Γ' M')
    (hs : starEach [a, b] X.env = (false, eval a X.env) :: starEach [b] X.env := by rfl) (hpl : (backTo pos2 (starEach [b] X.env)).any (·.1) = false := by rfl) (hf : ∀ x, foldedSetIterable (.Call (.Name "zip" p) [a, b] [] pos2) X.env x = pure x := by intro _; rfl) : W1 X Γ M (.For (.Tuple elts kk tpos) (.Call (.Name "zip" p) [a, b] [] pos2) body [] pos) Ψ := fun P σ H s m =>
  wpS_of (ps_for hp hc (RZ.pi_zipA hg hm pa_wp hs hpl) pg_wp pss_wp hf) ((h P σ H s m).mono fun vs H1 ⟨ds, M1, P1, ⟨Iv, xs, ys, ed, hxy, hI, hstep, hdone⟩, e1, m1, i1⟩ => by
    subst ed
    obtain ⟨v, v2, rfl, hv, hv2⟩ := i1.un2
    cases hv with
    | @lst l vs _ hq hl hi =>
      cases hv2 with
      | @lst l2 vs2 _ hq2 hl2 hi2 =>
        refine ⟨l, l2, vs, vs2, rfl, .inl ⟨m1.ex.seq hq, m1.ex.seq hq2, RZ.for_zipL (K := X.K) (a := l) (b := l2) (xs := vs) (ys := vs2) (by rw [hl, hl2, hxy]) (fun i => FinS X.K P1 (Iv i)) ⟨Γ, M1, P1, hI, Same.refl P1, s.mono e1, m1⟩
          (fun i σ' H' ⟨Γ', M', P', _, e', _, m'⟩ => ⟨m'.ex.seq (e'.seq hq), m'.ex.seq (e'.seq hq2)⟩) ?_ ?_⟩⟩
        · rintro i x y T σ' H' hx hy ⟨Γ', M', P', hI', e', s', m'⟩ hT
          obtain ⟨dx, hdx, ix⟩ := IsDs.getV (K := X.K) (P := P1) ⟨hl, hi⟩ hx
          obtain ⟨dy, hdy, iy⟩ := IsDs.getV (K := X.K) (P := P1) ⟨hl2, hi2⟩ hy
          obtain ⟨m2, e2⟩ := m'.push (o := .tup [x, y]) hT
          refine (hstep i dx dy Γ' M' hdx hdy hI' (upd P' T (.tup [x, y])) σ' _ (.ref T) (s'.mono e2) m2 (.tup (SqT.of upd_same) rfl (IsDs.cons (ix.mono (e'.trans e2)) (.cons (iy.mono (e'.trans e2)) .nil)).2)).mono fun σ2 H2 ⟨Γ2, M2, P2, q, e3, s2, mm2⟩ => (q P2 σ2 H2 s2 mm2).mono ?_
          exact ⟨fun _ _ z => z.up (e'.trans (e2.trans e3)), fun _ _ z => z.up (e1.trans (e'.trans (e2.trans e3))), fun _ _ z => z.up (e1.trans (e'.trans (e2.trans e3))), fun _ _ z => z.up (e'.trans (e2.trans e3))⟩
        · rintro σ' H' ⟨Γ', M', P', hI', e', s', m'⟩
          exact ⟨Γ', M', P', hdone Γ' M' (by rw [← hl]; exact hI'), e1.trans e', s', m'⟩)
end
/-! ### texts of numbers -/
def isS (i : Int) : Str := Str.ofString (toString i)
theorem isS_nat (n : Nat) : TL.tl (isS (n : Int)) = TL.numL n := TL.tl_num n
theorem isS_neg (n : Nat) : TL.tl (isS (Int.negSucc n)) = 45 :: TL.numL (n + 1) := by
  have e : toString (Int.negSucc n) = "-" ++ Nat.repr (n + 1) := rfl
  have e2 : toString (((n + 1 : Nat)) : Int) = Nat.repr (n + 1) := rfl
  have h1 := TL.tl_num (n + 1)
  rw [e2, TL.tl_ofString] at h1
  unfold isS
  rw [e, TL.tl_ofString, String.toList_append, List.map_append, h1]
  rfl
theorem isS_free {i : Int} {s : Nat} (h : s < 45 ∨ (45 < s ∧ s < 48) ∨ 57 < s) : s ∉ TL.tl (isS i) := by
  cases i with
  | ofNat n =>
    show s ∉ TL.tl (isS (n : Int))
    rw [isS_nat]
    exact TL.numL_free (by omega)
  | negSucc n =>
    rw [isS_neg]
    intro hm
    rcases List.mem_cons.mp hm with e | e
    · omega
    · exact TL.numL_free (by omega) e
theorem isS_inj {i j : Int} (h : isS i = isS j) : i = j := by
  have h := congrArg TL.tl h
  cases i with
  | ofNat n =>
    cases j with
    | ofNat m =>
      have h : TL.tl (isS (n : Int)) = TL.tl (isS (m : Int)) := h
      rw [isS_nat, isS_nat] at h
      rw [TL.numL_inj h]
    | negSucc m =>
      exfalso
      have h : TL.tl (isS (n : Int)) = _ := h
      rw [isS_nat, isS_neg] at h
      have : 45 ∈ TL.numL n := by rw [h]; exact List.mem_cons_self
      exact TL.numL_free (by omega) this
  | negSucc n =>
    cases j with
    | ofNat m =>
      exfalso
      have h : _ = TL.tl (isS (m : Int)) := h
      rw [isS_nat, isS_neg] at h
      have : 45 ∈ TL.numL m := by rw [← h]; exact List.mem_cons_self
      exact TL.numL_free (by omega) this
    | negSucc m =>
      rw [isS_neg, isS_neg] at h
      have := TL.numL_inj (List.cons.inj h).2
      have e : n = m := by omega
      rw [e]
theorem isS_len {i : Int} {k : Nat} (hk : 0 < k) (h : i.natAbs < 10 ^ k) : (isS i).length ≤ k + 1 := by
  unfold isS
  rw [PySem.ofString_length]
  exact int_text_length_le10 hk h
theorem isS_log {i : Int} (h : i.natAbs < 10 ^ 100) : i.natAbs.log2 < 1920 := log_of h
theorem slA (a b : Str) : (a ++ b).length = a.length + b.length := by
  rw [TL.len_tl, TL.tl_append, List.length_append, ← TL.len_tl, ← TL.len_tl]
theorem empA (a : Str) : Str.empty ++ a = a := by
  refine TL.ext_tl ?_
  rw [TL.tl_append]
  rfl
theorem appA (a b c : Str) : (a ++ b) ++ c = a ++ (b ++ c) := by
  refine TL.ext_tl ?_
  rw [TL.tl_append, TL.tl_append, TL.tl_append, TL.tl_append, List.append_assoc]
/-- parts with blanks between -/
def spJ (parts : List Str) : Str := Txt.join " " parts
theorem sp_tl : TL.tl (" " : Str) = [32] := by decide +kernel
theorem spJ_tl (parts : List Str) : TL.tl (spJ parts) = TL.joinL [32] (parts.map TL.tl) := by
  unfold spJ
  rw [TL.join_eq, TL.tl_join, sp_tl]
theorem spJ_two {a b : Str} {r : List Str} : spJ (a :: b :: r) = a ++ (" " ++ spJ (b :: r)) := by
  refine TL.ext_tl ?_
  rw [spJ_tl, TL.tl_append, TL.tl_append, spJ_tl, sp_tl]
  rfl
theorem spJ_one {a : Str} : spJ [a] = a := by
  refine TL.ext_tl ?_
  rw [spJ_tl]
  rfl
theorem spJ_split {parts : List Str} (hne : parts ≠ []) (hp : ∀ p, p ∈ parts → 32 ∉ TL.tl p) : Txt.split (spJ parts) " " = parts := TL.split_join (S := []) sp_tl (by decide +kernel) hne hp
theorem spJ_inj {as bs : List Str} (ha : as ≠ []) (hb : bs ≠ []) (h1 : ∀ p, p ∈ as → 32 ∉ TL.tl p) (h2 : ∀ p, p ∈ bs → 32 ∉ TL.tl p) (h : spJ as = spJ bs) : as = bs := by
  rw [← spJ_split ha h1, ← spJ_split hb h2, h]
theorem isS_sp {i : Int} : 32 ∉ TL.tl (isS i) := isS_free (.inl (by decide))
end Dt

set_option Elab.async false
set_option linter.all false
set_option maxRecDepth 100000
set_option maxHeartbeats 2000000
/-! Dt, part 47: ==, != of tuples of own objects that are alike by their own __eq__. -/
namespace Dt
open PySem PySem.Spec PyProof.Rows L2
open AutoSeq1 (wpAny_loadPart')
section
variable {prog : Program} {w : World} {A : Around} {R : Result → Shared → Prop}
/-- tuple != tuple where all items are alike -/
theorem tup_neG (l b : Addr) (xs ys : Array Value) (n n2 : Nat) (dd dd2 : Option Addr) (sl sl2 : Array (Option Value)) (hsz : xs.size = ys.size) (J : List (Value × Value) → Shared → Prop)
    (step : ∀ x y rest s, J ((x, y) :: rest) s → wpAny (model prog w) A.in1 (eqBool x y) (fun r s' => r = true ∧ J rest s') (fun e s' => R (.error e) s') s)
    (fin : ∀ s, J [] s → R (.ok (.ret (.bool false))) s) {s : Shared} (hl : s.heap.get? l = some { cls := .type "tuple", dict := dd, data := .seq xs n, slots := sl }) (hb : s.heap.get? b = some { cls := .type "tuple", dict := dd2, data := .seq ys n2, slots := sl2 }) (h : J (xs.toList.zip ys.toList) s) :
    wpAny (model prog w) A.in1 (Builtin.«tuple.__ne__» ⟨[.ref l, .ref b], []⟩) (GQ.FinOf prog w A R) (fun e s' => R (.error e) s') s := by
  have f2 := AutoSeq1.sub_tuple_tuple
  have h0 := h
  obtain ⟨hp, g, d, tk, os⟩ := s
  wp_walk using wpAny_loadPart' hl, wpAny_loadPart' hb, wpAny_forIn_list _ (fun rest b s' => b.1 = none ∧ J rest s') _
  case turn =>
    rintro ⟨x, y⟩ rest b s' ⟨hb', hJ⟩
    refine wpAny_bind (wpAny_mono (step x y rest s' hJ) (fun r s2 q2 => ?_) fun _ _ z => z)
    obtain ⟨hr, q2⟩ := q2
    subst hr
    wp_walk
    exact ⟨rfl, q2⟩
  case fin =>
    rintro ⟨b1, b2⟩ s' ⟨hb', hJ⟩
    simp only at hb'
    subst hb'
    have hR := fin s' hJ
    wp_walk
    simpa [Builtin.Tuple.tupleCompareSizes, hsz] using hR
  case h => exact ⟨rfl, h0⟩
end
section
variable {prog : Program} {w : World} {A : Around} {E : Value → Shared → Prop} {s : Shared}
theorem rc_tupNe {l b : Addr} {xs ys : Array Value} {Q : Value → Shared → Prop} (hsz : xs.size = ys.size) (hu : A.units < cLine) (J : List (Value × Value) → Shared → Prop) (hl : s.heap.IsTuple l xs) (hb : s.heap.IsTuple b ys)
    (step : ∀ x y rest s, J ((x, y) :: rest) s → wpAny (model prog w) A.in1 (eqBool x y) (fun r s' => r = true ∧ J rest s') E s) (fin : ∀ s, J [] s → Q (.bool false) s) (h : J (xs.toList.zip ys.toList) s) : wpAny (model prog w) A (richCompare .NotEq (.ref l) (.ref b)) Q E s := by
  obtain ⟨⟨cls, dd, data, sl⟩, ho, hc, n, hd⟩ := id hl
  obtain ⟨⟨cls2, dd2, data2, sl2⟩, ho2, hc2, n2, hd2⟩ := id hb
  simp only at hc hd hc2 hd2
  subst hc hd hc2 hd2
  refine wpAny_richCompare_same_room (op := .NotEq) ⟨_, ho, rfl⟩ ⟨_, ho2, rfl⟩ PySem.F.slot_tuple_ne (GQ.call_here PySem.F.slot_tuple_ne ⟨_, ho, rfl⟩ PySem.F.entry_tuple_ne (PySem.F.args_tuple_ne_2 _ _) ?_) hu
  exact tup_neG (R := wants (fun v s' => v ≠ .notImplemented ∧ Q v s') E) l b xs ys n n2 dd dd2 sl sl2 hsz J step (fun s' q => ⟨(fun x => nomatch x), fin s' q⟩) ho ho2 h
end
section
variable {X : Cx} {n k : Nat} {M : Mem} {Φ : VP} {x y : D} {S : DS} {C : Addr}
/-- own objects alike by their own __eq__ -/
def DOb (K : PySem.W.Frag) (C : Addr) (S : DS) : Eqv := fun x y H => ∃ fs gs, IsD K H x (.obj C fs) ∧ IsD K H y (.obj C gs) ∧ S [.obj C fs, .obj C gs] [] (fun r M1 => r = .bl true ∧ M1 = [])
theorem mon_ob {K : PySem.W.Frag} : Mon (DOb K C S) := fun x y H H' e ⟨fs, gs, h1, h2, h3⟩ => ⟨fs, gs, h1.mono e, h2.mono e, h3⟩
theorem mok_nil {K : PySem.W.Frag} {H : Hp} : MOk K [] H H := ⟨Same.refl H, List.nodup_nil, fun a o h => by cases h⟩
theorem eqG_ob (F : HasMe X.prog X.w X.K X.mg X.base k C "__eq__" S) : EqG X k (DOb X.K C S) := by
  obtain ⟨f, fd, ps, F1, hm, hb⟩ := F
  have F2 : FnOk X.prog X.w X.K X.mg X.base CX0 k f fd ps (spEq fun a b H => DOb X.K C S (.ref a) (.ref b) H) := F1.imp fun vs H Q E ⟨a, b, hv, ⟨fs, gs, h1, h2, h3⟩, q⟩ => by
    subst hv
    refine ⟨H, [], _, _, .cons h1 (.cons h2 .nil), mok_nil, h3, fun v H' ⟨d, M2, P2, ⟨e1, e2⟩, e3, m2, i2⟩ => ?_⟩
    subst e1
    cases i2
    exact q H' (e3.trans m2.ex)
  exact (eqG_ins (E := E0) F2 hm.at_ hm.fn hb pass0).imp fun x y H ⟨fs, gs, h1, h2, h3⟩ => by
    cases h1 with
    | @obj a _ dx us _ ha hl hi =>
      cases h2 with
      | @obj b _ dy vs _ hb hl2 hi2 => exact ⟨a, b, dx, dy, us, vs, rfl, rfl, ha, hb, fs, gs, .obj ha hl hi, .obj hb hl2 hi2, h3⟩
/-- two tuples, item by item -/
theorem dtup_of {Dd : Eqv} {K : PySem.W.Frag} {P H : Hp} {a b : V} {xs ys : List D} (e : Ex P H) (hl : xs.length = ys.length) (ia : IsD K P a (.tup xs)) (ib : IsD K P b (.tup ys)) (hp : ∀ (i : Nat) d d' v v', xs[i]? = some d → ys[i]? = some d' → IsD K P v d → IsD K P v' d' → Dd v v' H) : DTup K Dd a b H := by
  cases ia with
  | @tup a1 us _ h1 l1 i1 =>
    cases ib with
    | @tup b1 vs _ h2 l2 i2 =>
      refine ⟨a1, b1, us, vs, rfl, rfl, Same.tupS e h1, Same.tupS e h2, by rw [l1, l2, hl], fun i v v' hv hv' => ?_⟩
      obtain ⟨d, hd, id'⟩ := IsDs.getV (K := K) (P := P) ⟨l1, i1⟩ hv
      obtain ⟨d', hd', id2⟩ := IsDs.getV (K := K) (P := P) ⟨l2, i2⟩ hv'
      exact hp i d d' v v' hd hd' id' id2
theorem od_eqTG {Dd : Eqv} (mon : Mon Dd) (h : EqG X n Dd) (hr : Room (n + 1) X.A) (hd : ∀ P H a b, MOk X.K M P H → IsD X.K P a x → IsD X.K P b y → DTup X.K Dd a b H) (q : Φ (.bl true) M) : OpD X (compareOp .Eq) x y M Φ := fun P H a b m ia ib =>
  opT_of (op_eqG (rcG_tup mon h) hr) ⟨hd P H a b m ia ib, fun H' e => ⟨_, M, P, q, Same.refl P, m.grow e, .bl⟩⟩
theorem od_neTG {Dd : Eqv} (mon : Mon Dd) (h : EqG X n Dd) (hr : Room (n + 1) X.A) (hd : ∀ P H a b, MOk X.K M P H → IsD X.K P a x → IsD X.K P b y → DTup X.K Dd a b H) (q : Φ (.bl false) M) : OpD X (compareOp .NotEq) x y M Φ := fun P H a b m ia ib pins σ s u v I ra rb => by
  obtain ⟨a1, b1, xs, ys, rfl, rfl, ha, hb, p⟩ := hd P H a b m ia ib
  cases ra
  cases rb
  obtain ⟨its, r, e, z⟩ := I.tuple ha
  obtain ⟨its2, r2, e2, z2⟩ := I.tuple hb
  have hsz : its.toArray.size = its2.toArray.size := by rw [List.size_toArray, List.size_toArray, ← r.length, ← r2.length]; exact p.1
  have sb : Sub X (n + 1) X.A := ⟨hr, rfl⟩
  show wpAny (model X.prog X.w) X.A (richCompare .NotEq _ _) _ X.xe s
  refine rc_tupNe hsz hr.units0 (fun rest s' => ∃ us vs H', rest = us.zip vs ∧ us.length = vs.length ∧ (∃ as bs, Vals as us ∧ Vals bs vs ∧ Prs Dd as bs H') ∧ Ext H H' ∧ Inv X pins σ H' s') e e2 ?_ ?_ ⟨its, its2, H, by simp, by simpa using hsz, ⟨xs, ys, r, r2, p⟩, Ext.rfl', I⟩
  · rintro x0 y0 rest s' ⟨us, vs, H', hz, hl, ⟨as, bs, ra, rb, pr⟩, ex, I'⟩
    cases ra with
    | nil => cases hz
    | cons r0 rt =>
      cases rb with
      | nil => cases hz
      | cons q0 qt =>
        rename_i a0 as0 us0 _ b0 bs0 vs0
        rw [List.zip_cons_cons] at hz
        injection hz with h1 h2
        injection h1 with h3 h4
        subst h3 h4 h2
        refine wpAny_mono (h X.A.in1 pins s' σ H' _ _ _ _ sb.in1 I' r0 q0 (pr.2 0 _ _ rfl rfl)) (fun rr s2 ⟨hrr, H2, I2, e3⟩ => ⟨hrr, _, _, H2, rfl, by simpa using hl, ⟨_, _, rt, qt, ?_⟩, ex.trans e3, I2⟩) fun _ _ z => z
        exact ⟨by simpa using pr.1, fun i x y hx hy => mon x y H' H2 e3 (pr.2 (i + 1) x y hx hy)⟩
  · rintro s' ⟨us, vs, H', hz, hl, _, ex, I'⟩
    exact ⟨.bl false, H', I', rfl, _, M, P, q, Same.refl P, m.grow ex, .bl⟩
end
end Dt

set_option Elab.async false
set_option linter.all false
set_option maxRecDepth 100000
set_option maxHeartbeats 2000000
/-! Dt, part 48: tuple * number; texts with line ends; little sums. -/
namespace Dt
open PySem PySem.Spec PyProof.Rows L2
def nlJ (parts : List Str) : Str := Txt.join "\n" parts
theorem nl_tl : TL.tl ("\n" : Str) = [10] := by decide +kernel
theorem nlJ_split {parts : List Str} (hne : parts ≠ []) (hp : ∀ p, p ∈ parts → 10 ∉ TL.tl p) : Txt.split (nlJ parts) "\n" = parts := TL.split_join (S := []) nl_tl (by decide +kernel) hne hp
theorem nlJ_inj {as bs : List Str} (ha : as ≠ []) (hb : bs ≠ []) (h1 : ∀ p, p ∈ as → 10 ∉ TL.tl p) (h2 : ∀ p, p ∈ bs → 10 ∉ TL.tl p) (h : nlJ as = nlJ bs) : as = bs := by
  rw [← nlJ_split ha h1, ← nlJ_split hb h2, h]
theorem isS_nl {i : Int} : 10 ∉ TL.tl (isS i) := isS_free (.inl (by decide))
theorem spJ_free {s : Nat} (hs : s ≠ 32) : ∀ {parts : List Str}, (∀ p, p ∈ parts → s ∉ TL.tl p) → s ∉ TL.tl (spJ parts)
  | [], _ => by rw [spJ_tl]; simp [TL.joinL]
  | [a], h => by rw [spJ_one]; exact h a List.mem_cons_self
  | a :: b :: r, h => by
    rw [spJ_two, TL.tl_append, TL.tl_append, sp_tl]
    simp only [List.mem_append, List.mem_singleton, not_or]
    exact ⟨h a List.mem_cons_self, hs, spJ_free hs fun p hp => h p (List.mem_cons_of_mem _ hp)⟩
theorem sumB {α : Type} (f : α → Nat) (n : Nat) : ∀ (as : List α), (∀ a, a ∈ as → f a ≤ n) → (as.map f).sum ≤ as.length * n
  | [], _ => by simp
  | a :: as, h => by
    have h1 := h a List.mem_cons_self
    have h2 := sumB f n as fun b hb => h b (List.mem_cons_of_mem _ hb)
    rw [List.map_cons, List.sum_cons, List.length_cons, Nat.add_mul]
    omega
theorem spJ_len (n : Nat) : ∀ {parts : List Str}, (∀ p, p ∈ parts → p.length ≤ n) → (spJ parts).length ≤ parts.length * (n + 1)
  | [], _ => by rw [TL.len_tl, spJ_tl]; simp [TL.joinL]
  | [a], h => by
    rw [spJ_one]
    have := h a List.mem_cons_self
    show a.length ≤ 1 * (n + 1)
    omega
  | a :: b :: r, h => by
    rw [spJ_two, slA, slA]
    have h1 := h a List.mem_cons_self
    have h2 := spJ_len n (parts := b :: r) fun p hp => h p (List.mem_cons_of_mem _ hp)
    have h3 : (" " : Str).length = 1 := by decide +kernel
    rw [List.length_cons, Nat.add_mul]
    omega
section
variable {X : Cx} {M : Mem} {Φ : VP}
/-- (x, ..) * n -/
theorem od_repT {xs : List D} {n : Int} (hn : xs ≠ []) (h1 : 2 ≤ n) (h2 : n ≤ 1000) (hl : xs.length ≤ 1000) (q : Φ (.tup (List.replicate n.toNat xs).flatten) M) : OpD X (binaryOp .Mult) (.tup xs) (.int n) M Φ := fun P H a b m ia ib => by
  cases ib
  cases ia with
  | @tup a1 us _ hs hl2 hi =>
    refine opT_of op_repT ⟨a1, n, us, rfl, rfl, Same.tupS m.ex hs, fun e => hn ?_, h1, h2, by omega, fun p hp => ?_⟩
    · rw [e] at hl2
      exact List.length_eq_zero_iff.mp hl2.symm
    obtain ⟨m2, e2⟩ := m.push (o := .tup (List.replicate n.toNat us).flatten) hp
    have hd := isDs_rep (IsDs.mono e2 (K := X.K) ⟨hl2, hi⟩) n.toNat
    exact ⟨_, M, _, q, e2, m2, .tup (SqT.of upd_same) hd.1 hd.2⟩
end
end Dt

set_option Elab.async false
set_option linter.all false
set_option maxRecDepth 100000
set_option maxHeartbeats 2000000
/-! Dt, part 49: try whose body raises nothing; classmethods; a class that a name of one's own holds; x in a list of data. -/
namespace Dt
open PySem PySem.Spec PyProof.Rows L2 ClX
section
variable {X : Cx} {Γ : Sl} {M : Mem} {Ψ : Po} {Φ : VP} {body : List Stmt} {h0 : ExceptHandler} {hs : List ExceptHandler} {pos apos p : Pos} {o e : Expr} {es : List Expr} {k i : Nat} {S : DS} {C : Addr} {m x : Str} {sts : List Stmt}
theorem w1_thru (h : WS X.nox Γ M body Ψ) : W1 X Γ M (.Try body (h0 :: hs) [] [] pos) Ψ := fun P σ H s m => wpS_of (ps_try_thru0 pss_wp) (h P σ H s m)
/-- C.m, a classmethod -/
def HasCm (P : Program) (w : World) (K : PySem.W.Frag) (mg : Str → Option Value) (base : Heap) (k : Nat) (C : Addr) (m : Str) (S : DS) : Prop :=
  ∃ mc p g fd ps, CRead K C mc ∧ CMet K C mc m p g ∧ FnOk P w K mg base CX0 k g fd ps (spOf K S) ∧ Binds K fd ps []
theorem we_cm (F : HasCm X.prog X.w X.K X.mg X.base k C m S) (hr : Room k X.A) (h : WE X Γ M o fun d M1 => d = .adr C ∧ WA X Γ M1 (e :: es) fun ds M2 => S (.adr C :: ds) M2 Φ)
    {pl : Sem Bool} (hst : starEach (e :: es) X.env = (false, eval e X.env) :: starEach es X.env := by rfl) (hpl : (backTo pos (starEach es X.env)).any (·.1) = false := by rfl)
    (ht : eval (.Call (.Attribute o m apos) (e :: es) [] pos) X.env = (do
      let ov ← eval o X.env
      standAt apos.atName
      let (f, first) ← holding [ov] (getMethod ov m pl)
      callWith pos f first (backTo pos (starEach (e :: es) X.env)) (backToKw pos (keywordEach [] X.env))) := by rfl) : WE X Γ M (.Call (.Attribute o m apos) (e :: es) [] pos) Φ := fun P σ H s mm => by
  obtain ⟨mc, p, g, fd, ps, r, c, F1, hb⟩ := F
  refine wpT_of (pe_cmeth (pl := pl) pe_wp r c (F1.raw hb .nil) hr pass0 pa_wp hst hpl ht) ((h P σ H s mm).mono fun v H1 ⟨d, M1, P1, ⟨hd, q⟩, e1, m1, i1⟩ => ?_)
  subst hd
  cases i1
  refine ⟨rfl, (q P1 σ H1 (s.mono e1) m1).mono fun vs H2 ⟨ds, M2, P2, q2, e2, m2, i2⟩ => ?_⟩
  obtain ⟨P3, M3, d3, Φ3, a1, a2, a3, a4⟩ := sp_of (E := E0) (IsDs.cons (K := X.K) (P := P2) (d := .adr C) .adr i2) m2 q2
  exact ⟨P3, M3, d3, Φ3, a1, a2, a3, fun v H' z => (a4 v H' z).up (e1.trans e2)⟩
/-- the i-th slot holds the class at C -/
theorem pe_makeL {CX : CXT} {f : Addr} {fd : FuncData} {ps : List Str} {sp : Sp} {dvs : List V} {ds : List Value} {E : XK} {t : TA} (M : Mk X.K C f) (F : FnOk X.prog X.w X.K X.mg X.base CX k f fd ps sp) (hr : Room (k + 1) X.A) (hN : X.N[i]? = some x) (hv : Vis X.env.scope x) (hb : Binds X.K fd ps ds) (hd : Vals dvs ds) (hx : Passes CX X E)
    (ha : PA X (e :: es) t) (hdb : (x == ("__debug__" : Str)) = false) (hcd : (x == ("__classdict__" : Str)) = false) (he : starEach (e :: es) X.env = (false, eval e X.env) :: starEach es X.env) (hpl : (backTo pos (starEach es X.env)).any (·.1) = false) :
    PE X (.Call (.Name x p) (e :: es) [] pos) (fun σ H Q => σ[i]? = some (some (.ref C)) ∧ tMake C sp dvs E t σ H Q) := by
  refine ⟨fun pins s σ H Q I h => ?_⟩
  obtain ⟨hs, ht⟩ := h
  refine wpAny_Call_Name_kw (thn ((pe_var (pos := p) hN hv hdb hcd).run pins s σ H (fun v H1 => v = .ref C ∧ H1 = H) I ⟨.ref C, hs, rfl, rfl⟩) fun u s1 ⟨v, H1, I1, r1, q1⟩ => ?_)
  obtain ⟨rfl, rfl⟩ := q1
  cases r1
  refine PySem.W.callWith_K (h₀ := X.base) I.ok.mod.kin M.kp (thn (ha.run pos pins s1 σ _ _ I1 ht) fun us s2 ⟨vs, H2, I2, r, q⟩ => ⟨I2.kIn, ?_⟩) he hpl
  exact run_make M F hr hb hd hx I2 r q
theorem wxmL (i : Nat) {S : DSx} {Ξ : XP} {dfs : List D} {y : Str} (F : HasMkX X.prog X.w X.K X.mg X.base k C y dfs S) (hr : Room (k + 1) X.A) (hΓ : Γ[i]? = some (some (.adr C)))
    (h : WA X Γ M (e :: es) fun ds M1 => ∀ l, S (.adr l :: (ds ++ dfs)) ((l, .ins C []) :: M1) (fun r M2 => r = .non ∧ ∃ fs M3, M2 = (l, .ins C fs) :: M3 ∧ Φ (.obj C fs) M3) (fun C' as M2 => ∃ o M3, M2 = (l, o) :: M3 ∧ Ξ C' as M3))
    (hN : X.N[i]? = some x := by rfl) (hv : Vis X.env.scope x := by first | exact Or.inl rfl | exact Or.inr (Or.inl rfl) | exact Or.inr (Or.inr rfl)) (hdb : (x == ("__debug__" : Str)) = false := by decide) (hcd : (x == ("__classdict__" : Str)) = false := by decide) (he : starEach (e :: es) X.env = (false, eval e X.env) :: starEach es X.env := by rfl) (hpl : (backTo pos (starEach es X.env)).any (·.1) = false := by rfl) : WEx X Γ M (.Call (.Name x p) (e :: es) [] pos) Φ Ξ := fun P σ H s m tk => by
  obtain ⟨f, fd, ps, us, vs0, F1, mk, hm, hb, hv0, hd0⟩ := F
  have hσ : σ[i]? = some (some (.ref C)) := by
    obtain ⟨v, h1, h2⟩ := s.at_ i _ hΓ
    cases h2
    exact h1
  refine wpT_of (pe_makeL mk F1 hr hN hv hb hv0 (pass_x tk) pa_wp hdb hcd he hpl) ⟨hσ, (h P σ H s m).mono fun vs H1 ⟨ds, M1, P1, q, e1, m1, i1⟩ => ?_⟩
  intro l dx hl hdx hne
  obtain ⟨m2, e2⟩ := m1.push (o := .own l) hdx
  have hl2 : upd H1 dx (.own l) l = none := by
    rw [upd_ne (fun z => hne z.symm)]
    exact hl
  have m3 : MOk X.K ((l, .ins C []) :: M1) (upd P1 dx (.own l)) (upd (upd H1 dx (.own l)) l (.ins C dx [])) := m2.own hl2 ⟨dx, [], upd_same, .nil⟩
  refine ⟨_, _, _, _, _, .cons .adr ((i1.mono e2).append (hd0 _)), m3, q l, fun v H' z => ?_, fun c' d' H' z => ?_⟩
  · obtain ⟨d4, M4, P4, ⟨z1, fs, M5, z2, z3⟩, z4, z5, z6⟩ := z
    subst z1 z2
    cases z6
    obtain ⟨P6, e6, m6, i6⟩ := frz_ins z5
    exact ⟨rfl, _, M5, P6, z3, ((e1.trans e2).trans z4).trans e6, m6, i6⟩
  · obtain ⟨C', dd, fs, as, M4, P4, z1, z2, z3, z4, ⟨o, M5, z5, z6⟩, z7, z8⟩ := z
    subst z5
    exact ⟨C', dd, fs, as, M5, P4, z1, z2, z3, z4, z6, (e1.trans e2).trans z7, z8.tail⟩
/-- x in a list of data -/
theorem od_inLD {x y : D} {ys : List D} (hu : X.A.units + 65 < cLine) (hx : shp x = true) (hy : shp (.lst ys) = true) (sy : SeenD M y (.lst ys)) (q : Φ (.bl ((pys ys).any fun z => PyData.eqv z (py x))) M) : OpD X (compareOp .In) x y M Φ := fun P H a b m ia ib => by
  obtain ⟨h1, h2⟩ := Bool.and_eq_true_iff.mp hx
  obtain ⟨h3, h4⟩ := Bool.and_eq_true_iff.mp hy
  exact opT_of (op_inD hu) ⟨_, _, dp_of m.ex _ _ h1 ia, sy.dp m ib h3, h2, h4, .one q m .bl⟩
end
/-! ### the head -/
section
def locC (C m : Str) (K : Fg) : Addr := match PySem.W.findCls K (.ref (He.ga K C)) (.type "type") m with
  | some (.get _ (.ref p) _ _) => match PySem.W.recIn K p "classmethod" with
    | some (.ref g :: _) => g
    | _ => 0
  | _ => 0
def cmB (K : Fg) (C m : Str) : Bool := PySem.W.readsIn K (He.ga K C) (.type "type") && decide (PySem.W.specialIn K (.ref (He.ga K C)) "__getattribute__" = some (some (.builtin "type.__getattribute__"))) && match PySem.W.findCls K (.ref (He.ga K C)) (.type "type") m with
  | some (.get (.builtin b) (.ref p) .none (.ref C')) => decide (b = "classmethod.__get__") && decide (C' = He.ga K C) && match PySem.W.recIn K p "classmethod" with
    | some (.ref g :: _) => PySem.W.fnIn K g
    | _ => false
  | _ => false
theorem cmB_ok {K : Fg} {C m : Str} (h : cmB K C m = true) : ∃ p, CRead K (He.ga K C) (.type "type") ∧ CMet K (He.ga K C) (.type "type") m p (locC C m K) := by
  unfold cmB at h
  rw [Bool.and_eq_true, Bool.and_eq_true] at h
  obtain ⟨⟨h1, h2⟩, h3⟩ := h
  split at h3
  · rename_i b p C' hf
    rw [Bool.and_eq_true, Bool.and_eq_true] at h3
    obtain ⟨⟨h4, h5⟩, h6⟩ := h3
    have h4 := of_decide_eq_true h4
    have h5 := of_decide_eq_true h5
    subst h4 h5
    split at h6
    · rename_i g rest hr
      have e : locC C m K = g := by
        unfold locC
        rw [hf]
        simp only
        rw [hr]
      rw [e]
      exact ⟨p, ⟨h1, of_decide_eq_true h2⟩, ⟨hf, ⟨rest, hr⟩, h6⟩⟩
    · cases h6
  · cases h3
theorem hasCm {P : Program} {w : World} {K : Fg} {base : Heap} {mg : Str → Option Value} {k : Nat} {C m : Str} {fd : FuncData} {ps : List Str} {S : DS} (b : Binds K fd ps []) (g : cmB K C m = true) (F1 : FnOk P w K mg base CX0 k (locC C m K) fd ps (spOf K S)) : HasCm P w K mg base k (He.ga K C) m S := by
  obtain ⟨p, h1, h2⟩ := cmB_ok g
  exact ⟨_, p, _, fd, ps, h1, h2, F1, b⟩
end
end Dt

set_option Elab.async false
set_option linter.all false
set_option maxRecDepth 100000
set_option maxHeartbeats 2000000
/-! Dt, part 50: enumerate of a list, in a body that raises nothing; numbers read back from their texts. -/
namespace Dt
open PySem PySem.Spec PyProof.Rows L2
section
variable {X : Cx} {Γ : Sl} {M : Mem} {a b : Expr} {body : List Stmt} {Ψ : Po} {pos p pos2 tpos : Pos} {elts : List Expr} {kk : Nat}
/-- for i, x in enumerate(a list) -/
theorem w1_forEL (hp : PassesOwn (model X.prog X.w) X.A X.env X.xe) (hc : X.calm = true) (hg : Gl X "enumerate") (hm : X.mg "enumerate" = none)
    (h : WA X Γ M [a] fun ds M1 => ∃ (Iv : Nat → Sl → Mem → Prop) (xs : List D), ds = [.lst xs] ∧ Iv 0 Γ M1 ∧ (∀ (i : Nat) (y : D) Γ' M', xs[i]? = some y → Iv i Γ' M' → GD X Γ' M' (.Tuple elts kk tpos) (.tup [.int (i : Int), y]) fun Γ2 M2 => WS X Γ2 M2 body { Ψ with nx := Iv (i + 1), ct := Iv (i + 1), bk := Ψ.nx }) ∧ ∀ Γ' M', Iv xs.length Γ' M' → Ψ.nx Γ' M')
    (hs : starEach [a] X.env = [(false, eval a X.env)] := by rfl) (hf : ∀ x, foldedSetIterable (.Call (.Name "enumerate" p) [a] [] pos2) X.env x = pure x := by intro _; rfl) : W1 X Γ M (.For (.Tuple elts kk tpos) (.Call (.Name "enumerate" p) [a] [] pos2) body [] pos) Ψ := fun P σ H s m =>
  wpS_of (ps_for hp hc (pi_enum hg hm pa_wp hs) pg_wp pss_wp hf) ((h P σ H s m).mono fun vs H1 ⟨ds, M1, P1, ⟨Iv, xs, ed, hI, hstep, hdone⟩, e1, m1, i1⟩ => by
    subst ed
    obtain ⟨v, rfl, hv⟩ := i1.un1
    cases hv with
    | @lst l vs _ hq hl hi =>
      refine ⟨l, vs, rfl, Same.seq m1.ex hq, fun i n σ' H' => n = xs.length - i ∧ i ≤ xs.length ∧ FinS X.K P1 (Iv i) σ' H', ⟨xs.length, rfl, Nat.zero_le _, Γ, M1, P1, hI, Same.refl P1, s.mono e1, m1⟩, ?_⟩
      rintro i n σ' H' ⟨rfl, hin, Γ', M', P', hI', e', s', m'⟩
      have hqq : SqL X.K H' l vs := Same.seq (e'.trans m'.ex) hq
      by_cases hlt : i < xs.length
      · have hx : vs[i]? = some (vs[i]'(by rw [hl]; exact hlt)) := List.getElem?_eq_getElem _
        obtain ⟨y, hy, iy⟩ := IsDs.getV (K := X.K) (P := P1) ⟨hl, hi⟩ hx
        refine .inr ⟨⟨vs, _, hqq, hx⟩, FinS X.K P1 (Iv (i + 1)), fun σ2 H2 z => ⟨xs.length - (i + 1), by omega, rfl, hlt, z⟩, fun x0 H2 ⟨T, x1, e0, hT, eH, hz⟩ => ?_⟩
        subst e0 eH
        have ex : x1 = vs[i]'(by rw [hl]; exact hlt) := Option.some.inj ((hz vs hqq).symm.trans hx)
        subst ex
        obtain ⟨m2, e2⟩ := m'.push (o := .tup [.int (i : Int), vs[i]'(by rw [hl]; exact hlt)]) hT
        refine (hstep i y Γ' M' hy hI' (upd P' T (.tup [.int (i : Int), vs[i]'(by rw [hl]; exact hlt)])) σ' _ (.ref T) (s'.mono e2) m2 (.tup (SqT.of upd_same) rfl (IsDs.cons .int (.cons (iy.mono (e'.trans e2)) .nil)).2)).mono fun σ2 H2 ⟨Γ2, M2, P2, q, e3, s2, mm2⟩ => (q P2 σ2 H2 s2 mm2).mono ?_
        exact ⟨fun _ _ z => z.up (e'.trans (e2.trans e3)), fun _ _ z => z.up (e1.trans (e'.trans (e2.trans e3))), fun _ _ z => z.up (e1.trans (e'.trans (e2.trans e3))), fun _ _ z => z.up (e'.trans (e2.trans e3))⟩
      · have ei : i = xs.length := by omega
        subst ei
        exact .inl ⟨⟨vs, hqq, by rw [hl]; exact Nat.le_refl _⟩, Γ', M', P', hdone Γ' M' hI', e1.trans e', s', m'⟩)
end
/-! ### numbers from their texts -/
theorem numL_short {n : Nat} (h : n < 10 ^ 18) : (TL.numL n).length ≤ 18 := TL.numL_len (by decide) h
theorem isS_int {i : Int} (h : i.natAbs < 10 ^ 18) : PySem.intText? (isS i) = some i := by
  cases i with
  | ofNat n =>
    have h : n < 10 ^ 18 := h
    exact TL.int_num (Nat.le_trans (numL_short h) (by decide))
  | negSucc n =>
    have h : n + 1 < 10 ^ 18 := h
    have e := PySem.intText_neg (x := isS (Int.negSucc n)) (isS_neg n) (TL.numL_digits (n + 1)) (TL.numL_ne (n + 1)) (by
      rw [TL.len_tl, isS_neg, List.length_cons]
      have := numL_short h
      omega)
    rw [TL.numL_val] at e
    exact e
theorem numL_head : ∀ (n : Nat) {c : Nat} {r : List Nat}, TL.numL n = c :: r → c = 48 → n = 0
  | n, c, r, h, hc => by
    by_cases hn : n < 10
    · rw [TL.numL_lt hn] at h
      cases h
      omega
    · rw [TL.numL_step (by omega)] at h
      cases e : TL.numL (n / 10) with
      | nil => exact absurd e (TL.numL_ne _)
      | cons c' r' =>
        rw [e] at h
        rw [List.cons_append] at h
        injection h with h1 h2
        subst h1
        have := numL_head (n / 10) e hc
        omega
  termination_by n => n
theorem tl_cut1 (z : Str) (h : 1 ≤ z.length) : TL.tl (cutS z none (some 1)) = (TL.tl z).take 1 := by
  show ((z.cps.toList.drop (HT.sIx z.length 0 none)).take (HT.sIx z.length z.length (some 1) - HT.sIx z.length 0 none)) = _
  rw [HT.sIx_none, show HT.sIx z.length z.length (some 1) = 1 from (HT.sIx_nat z.length z.length 1).trans (Nat.min_eq_left h)]
  rfl
theorem tl_rest1 (z : Str) (h : 1 ≤ z.length) : TL.tl (cutS z (some 1) none) = (TL.tl z).drop 1 := by
  show ((z.cps.toList.drop (HT.sIx z.length 0 (some 1))).take (HT.sIx z.length z.length none - HT.sIx z.length 0 (some 1))) = _
  rw [HT.sIx_none, show HT.sIx z.length 0 (some 1) = 1 from (HT.sIx_nat z.length 0 1).trans (Nat.min_eq_left h)]
  refine List.take_of_length_le ?_
  rw [List.length_drop, Array.length_toList]
  exact Nat.le_refl _
theorem nlJ_tl (parts : List Str) : TL.tl (nlJ parts) = TL.joinL [10] (parts.map TL.tl) := by
  unfold nlJ
  rw [TL.join_eq, TL.tl_join, nl_tl]
theorem nlJ_len : ∀ (parts : List Str), (nlJ parts).length ≤ (parts.map (·.length)).sum + parts.length
  | [] => by rw [TL.len_tl, nlJ_tl]; simp [TL.joinL]
  | [a] => by
    rw [TL.len_tl, nlJ_tl]
    show (TL.tl a).length ≤ _
    rw [← TL.len_tl]
    simp
  | a :: b :: r => by
    have ih := nlJ_len (b :: r)
    rw [TL.len_tl, nlJ_tl] at ih ⊢
    have e : TL.joinL [10] ((a :: b :: r).map TL.tl) = TL.tl a ++ ([10] ++ TL.joinL [10] ((b :: r).map TL.tl)) := rfl
    rw [e, List.length_append, List.length_append, ← TL.len_tl]
    have e2 : ((a :: b :: r).map fun x : Str => x.length).sum = a.length + ((b :: r).map fun x : Str => x.length).sum := rfl
    have e3 : (a :: b :: r).length = (b :: r).length + 1 := rfl
    have e4 : ([10] : List Nat).length = 1 := rfl
    omega
end Dt

set_option Elab.async false
set_option linter.all false
set_option maxRecDepth 100000
set_option maxHeartbeats 1000000

namespace Sl57
open PySem PySem.Spec PyProof.Rows L2 Dt
def top (i : Nat) : Stmt := PySem.Challenge.pw_slipsights_k07_texts_of_sites.main.body.getD i (.Pass ⟨0, 0, 0, 0⟩)
set_option hygiene false
local macro_rules | `(tactic| walk_at "op") => `(tactic| (first
  | refine od_add ?_ | refine od_sub ?_ | refine od_lt ?_ | refine od_le ?_ | refine od_gt ?_ | refine od_ge ?_ | refine od_eq ?_ | refine od_ne ?_ | refine od_is ?_ | refine od_isn ?_
  | refine od_eqS ?_ | refine od_neS ?_ | refine od_eqB ?_ | refine od_neB ?_))
local macro_rules | `(tactic| walk_at "dead") => `(tactic| (first
  | (cases hb; done)
  | (exact absurd (show false = true from hb) (by decide))
  | (exact absurd (show true = false from hb) (by decide))
  | (exact absurd hb (by decide))
  | (exfalso; simp only [decide_eq_true_eq, decide_eq_false_iff_not, Bool.not_eq_true', Bool.not_eq_false'] at hb; omega)))
local macro_rules | `(tactic| walk_at "tidy") => `(tactic| (try simp only [decide_eq_true_eq, decide_eq_false_iff_not, Bool.not_eq_true', Bool.not_eq_false'] at hb))
local macro_rules | `(tactic| walk_at "truth") => `(tactic| (first | refine tr_bl ?_ | refine tr_lst ?_ | refine tr_tup ?_ | refine tr_non ?_ | refine tr_int ?_))
local macro_rules | `(tactic| walk_at "ix") => `(tactic| (first
  | refine ix_tup (j := 0) rfl rfl ?_ | refine ix_tup (j := 1) rfl rfl ?_ | refine ix_tup (j := 2) rfl rfl ?_
  | refine ix_lst (j := 0) rfl rfl ?_ | refine ix_lst (j := 1) rfl rfl ?_ | refine ix_lst (j := 2) rfl rfl ?_
  | refine ix_own (k := 0) (j := 0) rfl rfl rfl ?_
  | refine ix_own (k := 0) (j := 1) rfl rfl rfl ?_
  | refine ix_own (k := 0) (j := 2) rfl rfl rfl ?_
  | refine ix_own (k := 1) (j := 0) rfl rfl rfl ?_
  | refine ix_own (k := 1) (j := 1) rfl rfl rfl ?_
  | refine ix_own (k := 1) (j := 2) rfl rfl rfl ?_
  | refine ix_own (k := 2) (j := 0) rfl rfl rfl ?_
  | refine ix_own (k := 2) (j := 1) rfl rfl rfl ?_
  | refine ix_own (k := 2) (j := 2) rfl rfl rfl ?_
  | refine ix_own (k := 3) (j := 0) rfl rfl rfl ?_
  | refine ix_own (k := 3) (j := 1) rfl rfl rfl ?_
  | refine ix_own (k := 3) (j := 2) rfl rfl rfl ?_
  | refine ix_own (k := 4) (j := 0) rfl rfl rfl ?_
  | refine ix_own (k := 4) (j := 1) rfl rfl rfl ?_
  | refine ix_own (k := 4) (j := 2) rfl rfl rfl ?_
  | refine ix_own (k := 5) (j := 0) rfl rfl rfl ?_
  | refine ix_own (k := 5) (j := 1) rfl rfl rfl ?_
  | refine ix_own (k := 5) (j := 2) rfl rfl rfl ?_
  | refine ix_own (k := 6) (j := 0) rfl rfl rfl ?_
  | refine ix_own (k := 6) (j := 1) rfl rfl rfl ?_
  | refine ix_own (k := 6) (j := 2) rfl rfl rfl ?_
  | refine ix_own (k := 7) (j := 0) rfl rfl rfl ?_
  | refine ix_own (k := 7) (j := 1) rfl rfl rfl ?_
  | refine ix_own (k := 7) (j := 2) rfl rfl rfl ?_
  | refine ix_own (k := 8) (j := 0) rfl rfl rfl ?_
  | refine ix_own (k := 8) (j := 1) rfl rfl rfl ?_
  | refine ix_own (k := 8) (j := 2) rfl rfl rfl ?_
  | refine ix_own (k := 9) (j := 0) rfl rfl rfl ?_
  | refine ix_own (k := 9) (j := 1) rfl rfl rfl ?_
  | refine ix_own (k := 9) (j := 2) rfl rfl rfl ?_
  | refine ix_own (k := 10) (j := 0) rfl rfl rfl ?_
  | refine ix_own (k := 10) (j := 1) rfl rfl rfl ?_
  | refine ix_own (k := 10) (j := 2) rfl rfl rfl ?_
  | refine ix_own (k := 11) (j := 0) rfl rfl rfl ?_
  | refine ix_own (k := 11) (j := 1) rfl rfl rfl ?_
  | refine ix_own (k := 11) (j := 2) rfl rfl rfl ?_
  | refine ix_own (k := 12) (j := 0) rfl rfl rfl ?_
  | refine ix_own (k := 12) (j := 1) rfl rfl rfl ?_
  | refine ix_own (k := 12) (j := 2) rfl rfl rfl ?_
  | refine ix_own (k := 13) (j := 0) rfl rfl rfl ?_
  | refine ix_own (k := 13) (j := 1) rfl rfl rfl ?_
  | refine ix_own (k := 13) (j := 2) rfl rfl rfl ?_))
local macro_rules | `(tactic| walk_at "seti") => `(tactic| (first
  | refine ⟨0, 0, _, _, _, rfl, rfl, rfl, rfl, of_decide_eq_true rfl, ?_⟩
  | refine ⟨0, 1, _, _, _, rfl, rfl, rfl, rfl, of_decide_eq_true rfl, ?_⟩
  | refine ⟨0, 2, _, _, _, rfl, rfl, rfl, rfl, of_decide_eq_true rfl, ?_⟩
  | refine ⟨1, 0, _, _, _, rfl, rfl, rfl, rfl, of_decide_eq_true rfl, ?_⟩
  | refine ⟨1, 1, _, _, _, rfl, rfl, rfl, rfl, of_decide_eq_true rfl, ?_⟩
  | refine ⟨1, 2, _, _, _, rfl, rfl, rfl, rfl, of_decide_eq_true rfl, ?_⟩
  | refine ⟨2, 0, _, _, _, rfl, rfl, rfl, rfl, of_decide_eq_true rfl, ?_⟩
  | refine ⟨2, 1, _, _, _, rfl, rfl, rfl, rfl, of_decide_eq_true rfl, ?_⟩
  | refine ⟨2, 2, _, _, _, rfl, rfl, rfl, rfl, of_decide_eq_true rfl, ?_⟩
  | refine ⟨3, 0, _, _, _, rfl, rfl, rfl, rfl, of_decide_eq_true rfl, ?_⟩
  | refine ⟨3, 1, _, _, _, rfl, rfl, rfl, rfl, of_decide_eq_true rfl, ?_⟩
  | refine ⟨3, 2, _, _, _, rfl, rfl, rfl, rfl, of_decide_eq_true rfl, ?_⟩
  | refine ⟨4, 0, _, _, _, rfl, rfl, rfl, rfl, of_decide_eq_true rfl, ?_⟩
  | refine ⟨4, 1, _, _, _, rfl, rfl, rfl, rfl, of_decide_eq_true rfl, ?_⟩
  | refine ⟨4, 2, _, _, _, rfl, rfl, rfl, rfl, of_decide_eq_true rfl, ?_⟩
  | refine ⟨5, 0, _, _, _, rfl, rfl, rfl, rfl, of_decide_eq_true rfl, ?_⟩
  | refine ⟨5, 1, _, _, _, rfl, rfl, rfl, rfl, of_decide_eq_true rfl, ?_⟩
  | refine ⟨5, 2, _, _, _, rfl, rfl, rfl, rfl, of_decide_eq_true rfl, ?_⟩
  | refine ⟨6, 0, _, _, _, rfl, rfl, rfl, rfl, of_decide_eq_true rfl, ?_⟩
  | refine ⟨6, 1, _, _, _, rfl, rfl, rfl, rfl, of_decide_eq_true rfl, ?_⟩
  | refine ⟨6, 2, _, _, _, rfl, rfl, rfl, rfl, of_decide_eq_true rfl, ?_⟩
  | refine ⟨7, 0, _, _, _, rfl, rfl, rfl, rfl, of_decide_eq_true rfl, ?_⟩
  | refine ⟨7, 1, _, _, _, rfl, rfl, rfl, rfl, of_decide_eq_true rfl, ?_⟩
  | refine ⟨7, 2, _, _, _, rfl, rfl, rfl, rfl, of_decide_eq_true rfl, ?_⟩
  | refine ⟨8, 0, _, _, _, rfl, rfl, rfl, rfl, of_decide_eq_true rfl, ?_⟩
  | refine ⟨8, 1, _, _, _, rfl, rfl, rfl, rfl, of_decide_eq_true rfl, ?_⟩
  | refine ⟨8, 2, _, _, _, rfl, rfl, rfl, rfl, of_decide_eq_true rfl, ?_⟩
  | refine ⟨9, 0, _, _, _, rfl, rfl, rfl, rfl, of_decide_eq_true rfl, ?_⟩
  | refine ⟨9, 1, _, _, _, rfl, rfl, rfl, rfl, of_decide_eq_true rfl, ?_⟩
  | refine ⟨9, 2, _, _, _, rfl, rfl, rfl, rfl, of_decide_eq_true rfl, ?_⟩
  | refine ⟨10, 0, _, _, _, rfl, rfl, rfl, rfl, of_decide_eq_true rfl, ?_⟩
  | refine ⟨10, 1, _, _, _, rfl, rfl, rfl, rfl, of_decide_eq_true rfl, ?_⟩
  | refine ⟨10, 2, _, _, _, rfl, rfl, rfl, rfl, of_decide_eq_true rfl, ?_⟩
  | refine ⟨11, 0, _, _, _, rfl, rfl, rfl, rfl, of_decide_eq_true rfl, ?_⟩
  | refine ⟨11, 1, _, _, _, rfl, rfl, rfl, rfl, of_decide_eq_true rfl, ?_⟩
  | refine ⟨11, 2, _, _, _, rfl, rfl, rfl, rfl, of_decide_eq_true rfl, ?_⟩
  | refine ⟨12, 0, _, _, _, rfl, rfl, rfl, rfl, of_decide_eq_true rfl, ?_⟩
  | refine ⟨12, 1, _, _, _, rfl, rfl, rfl, rfl, of_decide_eq_true rfl, ?_⟩
  | refine ⟨12, 2, _, _, _, rfl, rfl, rfl, rfl, of_decide_eq_true rfl, ?_⟩
  | refine ⟨13, 0, _, _, _, rfl, rfl, rfl, rfl, of_decide_eq_true rfl, ?_⟩
  | refine ⟨13, 1, _, _, _, rfl, rfl, rfl, rfl, of_decide_eq_true rfl, ?_⟩
  | refine ⟨13, 2, _, _, _, rfl, rfl, rfl, rfl, of_decide_eq_true rfl, ?_⟩))
local macro_rules | `(tactic| walk_at "lst") => `(tactic| (first
  | refine cd_list (.inr (.inr ⟨0, _, rfl, rfl⟩)) ?_
  | refine cd_list (.inr (.inr ⟨1, _, rfl, rfl⟩)) ?_
  | refine cd_list (.inr (.inr ⟨2, _, rfl, rfl⟩)) ?_
  | refine cd_list (.inr (.inr ⟨3, _, rfl, rfl⟩)) ?_
  | refine cd_list (.inr (.inr ⟨4, _, rfl, rfl⟩)) ?_
  | refine cd_list (.inr (.inr ⟨5, _, rfl, rfl⟩)) ?_
  | refine cd_list (.inr (.inr ⟨6, _, rfl, rfl⟩)) ?_
  | refine cd_list (.inr (.inr ⟨7, _, rfl, rfl⟩)) ?_
  | refine cd_list (.inr (.inr ⟨8, _, rfl, rfl⟩)) ?_
  | refine cd_list (.inr (.inr ⟨9, _, rfl, rfl⟩)) ?_
  | refine cd_list (.inr (.inr ⟨10, _, rfl, rfl⟩)) ?_
  | refine cd_list (.inr (.inr ⟨11, _, rfl, rfl⟩)) ?_
  | refine cd_list (.inr (.inr ⟨12, _, rfl, rfl⟩)) ?_
  | refine cd_list (.inr (.inr ⟨13, _, rfl, rfl⟩)) ?_))
local macro_rules | `(tactic| walk_at "isi") => `(tactic| (first | refine cd_isi (k := true) rfl (by decide +kernel) ?_ | refine cd_isi (k := false) rfl (by decide +kernel) ?_))
local macro_rules | `(tactic| walk_at "size") => `(tactic| (first
  | exact (show 0 ≤ sizeLine by decide) | exact (show 1 ≤ sizeLine by decide) | exact (show 2 ≤ sizeLine by decide) | exact (show 3 ≤ sizeLine by decide) | exact (show 4 ≤ sizeLine by decide) | exact (show 5 ≤ sizeLine by decide) | exact (show 6 ≤ sizeLine by decide) | exact (of_decide_eq_true rfl) | exact (Nat.le_of_ble_eq_true rfl)))

section
variable {P : Program} {w : World} {K : PySem.W.Frag} {mg : Str → Option Value} {base : Heap}
/-! ### deal, draw, pick -/
theorem mulB {i j : Int} (hi : -(2 ^ 204) < i ∧ i < 2 ^ 204) (hj : -(2 ^ 204) < j ∧ j < 2 ^ 204) : CMulW i j := wide_mul (a := 204) (b := 204) (by omega) (by omega) (by decide) (by decide) (by decide)
def S_deal : DS := fun ds M Φ => ∃ ns : List Int, ds = [.lst (ns.map .int)] ∧ ns.length ≤ 63 ∧ ∀ l l2 gs m, Good gs m → Φ (.adr l) ((l, .lst [.adr l2, .int m]) :: (l2, .lst (gs.map D.int)) :: M)
def S_draw : DS := fun ds M Φ => ∃ (l l2 : Addr) (k : Nat) (many : Int), ds = [.adr l, .int many] ∧ DealAt M k l l2 ∧ 0 < many ∧ many < 2 ^ 200 ∧ ∀ r gs m, 0 ≤ r → r < many → Good gs m → Φ (.int r) (put2 M k l l2 gs m)
def S_pick : DS := fun ds M Φ => ∃ (l l2 : Addr) (k : Nat) (xs : List D), (ds = [.adr l, .lst xs] ∨ ds = [.adr l, .tup xs]) ∧ DealAt M k l l2 ∧ 0 < xs.length ∧ xs.length < 2 ^ 40 ∧ ∀ x gs m, x ∈ xs → Good gs m → Φ x (put2 M k l l2 gs m)
def absI (i : Int) : Int := if i < 0 then -i else i
theorem absI_nn (i : Int) : 0 ≤ absI i := by
  unfold absI
  split <;> omega
theorem deal_good {ns : List Int} {m : Int} (hl : ns.length ≤ 63) (h0 : 0 ≤ m) (h1 : m < 2 ^ 31) (p : Int → Bool) (lo hi : Option Int) : Good (((cutL ns lo hi).map absI).filter p).reverse m := by
  refine ⟨fun g hg => ?_, ?_, h0, h1⟩
  · obtain ⟨x, _, e⟩ := List.mem_map.mp (List.mem_filter.mp (List.mem_reverse.mp hg)).1
    rw [← e]
    exact absI_nn x
  · rw [List.length_reverse]
    have a := List.length_filter_le p ((cutL ns lo hi).map absI)
    have b := cut_len ns lo hi
    rw [List.length_map] at a
    omega
theorem getIs {is : List Int} {i : Nat} {y : D} (h : (is.map D.int)[i]? = some y) : ∃ c, is[i]? = some c ∧ y = .int c := getMap h
theorem pick_in {xs : List D} {r : Int} (h0 : 0 ≤ r) (h1 : r < (xs.length : Int)) : ∃ (j : Nat) (x : D), r = (j : Int) ∧ xs[j]? = some x ∧ x ∈ xs := by
  have hj : r.toNat < xs.length := by omega
  exact ⟨r.toNat, xs[r.toNat], by omega, List.getElem?_eq_getElem hj, List.getElem_mem hj⟩
abbrev s_Ldeal : Stmt := top 33
theorem sc_Ldeal : FnScope ["_law_script", "_law_cells", "_law_mixed_here", "_law_cell"] ["_law_script"] (defScope s_Ldeal) := ⟨rfl, rfl, rfl, by decide +kernel, rfl, by decide +kernel, by decide +kernel⟩
theorem ok_Ldeal {f : Addr} {fd : FuncData} (F : FunD K "_law_deal" "_law_deal" (defArgs s_Ldeal) (defBody s_Ldeal) (defScope s_Ldeal) [] [] f fd) (B : Bf mg) : FnOk P w K mg base CX0 1 f fd ["_law_script"] (spOf K S_deal) := by
  refine fn_data (k := 0) F sc_Ldeal (fun ds M Φ h => ?_) (fun cdv A outer s H E ds M Φ hr h => ?_)
  · obtain ⟨ns, rfl, hlen, q⟩ := h
    all_goals rfl
  · obtain ⟨ns, rfl, hlen, q⟩ := h
    refine ws_par 1 2 sc_Ldeal.nd ?_
    refine wa_cons ?_
    refine lcMapL (own := [("_law_cell", 3)]) (j := 3) sc_Ldeal.nd ?_ (blkOk_by (N := ["_law_script", "_law_cells", "_law_mixed_here", "_law_cell"]) (sc := defScope s_Ldeal) (by decide +kernel)) (fun _ _ _ _ _ => pg_name (i := 3) sc_Ldeal.nd rfl (Or.inl rfl))
    refine we_frz ?_
    refine we_slO ?_
    refine wv 0 rfl ?_
    refine wo_none (wo_some ?_)
    refine we_int ?_
    refine ⟨_, rfl, _, .inl rfl, fun l9 => ⟨l9, _, _, rfl, rfl, ?_⟩⟩
    rw [cut_map]
    refine ⟨_, gI absI, rfl, (by rw [List.length_map]; exact Nat.lt_of_le_of_lt (cut_len _ _ _) (Nat.lt_of_le_of_lt hlen (by decide))), fun i y hy l out s H C cl fp => ?_, ?_⟩
    · obtain ⟨c, hc, rfl⟩ := getIs hy
      refine wcB B.abs boot_abs ?_
      refine wa_cons ?_
      refine wv 3 rfl ?_
      refine wa_nil ?_
      refine cd_abs ?_
      exact ⟨rfl, rfl⟩
    rw [map_gI]
    refine wa_cons ?_
    refine we_int ?_
    refine wa_nil ?_
    refine ⟨_, _, rfl, ?_⟩
    refine ws_cons (w1_forL (by passes_own) rfl ?_)
    refine wv 1 rfl ?_
    refine ⟨fun _ Γ M2 => ∃ mm : Int, 0 ≤ mm ∧ mm < 2 ^ 31 ∧ Γ = [some (.lst (ns.map .int)), some (.lst (((cutL ns none (some 60)).map absI).map D.int)), some (.int mm), none] ∧ M2 = M, _, rfl, ⟨67867967, by decide, by decide, rfl, rfl⟩, ?_, ?_⟩
    · rintro i y Γ' M' hy ⟨mm, hm1, hm2, rfl, hM⟩
      subst hM
      obtain ⟨c, hc, rfl⟩ := getIs hy
      refine gd_name 3 sc_Ldeal.nd ?_
      refine ws_set 2 sc_Ldeal.nd ?_
      refine we_bin ?_
      refine wcT B.int boot_int ?_
      refine wa_cons ?_
      refine we_bin ?_
      refine we_bin ?_
      refine wv 2 rfl ?_
      refine we_int ?_
      refine od_mulW (mulB ⟨by omega, by omega⟩ ⟨by omega, by omega⟩) ?_
      refine we_bin ?_
      refine wcT B.int boot_int ?_
      refine wa_cons ?_
      refine wv 3 rfl ?_
      refine wa_nil ?_
      refine cd_int ?_
      refine we_int ?_
      refine od_mod (by decide) ?_
      walk_at "op"
      refine wa_nil ?_
      refine cd_int ?_
      refine we_int ?_
      refine od_mod (by decide) ?_
      refine ws_wk (Γ' := [some (.lst (ns.map .int)), some (.lst (((cutL ns none (some 60)).map absI).map D.int)), some (.int ((mm * 16807 + c % 2147483629) % 2147483647)), none]) (M' := M') (by repeat (first | exact wkE | refine wkS ?_ | refine wkN ?_)) (.refl _) ?_
      exact ws_nil ⟨_, by omega, by omega, rfl, rfl⟩
    · rintro Γ' M' ⟨mm, hm1, hm2, rfl, hM⟩
      subst hM
      refine ws_ret ?_
      refine we_lstO ?_
      refine wa_cons ?_
      refine we_revO ?_
      refine lcMapLF (own := [("_law_cell", 3)]) (j := 3) sc_Ldeal.nd ?_ (blkOk_by (N := ["_law_script", "_law_cells", "_law_mixed_here", "_law_cell"]) (sc := defScope s_Ldeal) (by decide +kernel)) (fun _ _ _ _ _ => pg_name (i := 3) sc_Ldeal.nd rfl (Or.inl rfl))
      refine wv 1 rfl ?_
      refine ⟨_, pI fun i => decide (10 ^ 18 ≤ i), fun y => y, rfl, (by rw [List.length_map, List.length_map]; exact Nat.lt_of_le_of_lt (cut_len _ _ _) (Nat.lt_of_le_of_lt hlen (by decide))), fun i y hy l out s H C cl fp => ?_, fun i y hy _ l out s H C cl fp => ?_, ?_⟩
      · obtain ⟨c, hc, rfl⟩ := getIs hy
        refine wt_cmp ?_ (nomark _)
        refine wv 3 rfl ?_
        refine we_bin ?_
        refine we_int ?_
        refine we_int ?_
        refine od_powV (v := 10 ^ 18) ⟨by decide, by decide, by decide⟩ rfl ?_
        walk_at "op"
        refine ⟨_, rfl, ?_⟩
        exact ⟨rfl, rfl⟩
      · skip
        refine wv 3 rfl ?_
        exact ⟨rfl, rfl⟩
      rw [filt_pI]
      refine ⟨_, .inl rfl, fun l_2 => ?_⟩
      rw [← List.map_reverse]
      refine wa_cons ?_
      refine wv 2 rfl ?_
      refine wa_nil ?_
      refine ⟨(by walk_at "size"), fun l_1 => ?_⟩
      exact q _ _ _ _ (deal_good hlen hm1 hm2 _ _ _)
abbrev s_Ldraw : Stmt := top 34
theorem sc_Ldraw : FnScope ["_law_deal_here", "_law_many", "_law_left"] ["_law_deal_here", "_law_many"] (defScope s_Ldraw) := ⟨rfl, rfl, rfl, by decide +kernel, rfl, by decide +kernel, by decide +kernel⟩
theorem ok_Ldraw {f : Addr} {fd : FuncData} (F : FunD K "_law_draw" "_law_draw" (defArgs s_Ldraw) (defBody s_Ldraw) (defScope s_Ldraw) [] [] f fd) (B : Bf mg) : FnOk P w K mg base CX0 1 f fd ["_law_deal_here", "_law_many"] (spOf K S_draw) := by
  refine fn_data (k := 0) F sc_Ldraw (fun ds M Φ h => ?_) (fun cdv A outer s H E ds M Φ hr h => ?_)
  · obtain ⟨l, l2, k, many, rfl, hD, hm1, hm2, q⟩ := h
    all_goals rfl
  · obtain ⟨l, l2, k, many, rfl, hD, hm1, hm2, q⟩ := h
    obtain ⟨gs, m, hg, h0, h1⟩ := hD
    have hkl : k + 1 < M.length := (List.getElem?_eq_some_iff.mp h1).1
    have hgm := hg.2.2
    refine ws_mid (fun Γ2 M2 => Γ2 = [some (.adr l), some (.int many), none] ∧ ∃ gs, Good gs m ∧ M2 = put2 M k l l2 gs m) ?_ ?_
    · refine w1_while (fun n Γ2 M2 => ∃ gs, n = gs.length ∧ Good gs m ∧ Γ2 = [some (.adr l), some (.int many), none] ∧ M2 = put2 M k l l2 gs m) (by passes_own) gs.length ⟨gs, rfl, hg, rfl, (put2_self h0 h1).symm⟩ ?_
      rintro n Γ' M' ⟨gs, rfl, hg, rfl, rfl⟩
      rcases snoc_cases gs with rfl | ⟨ys, y, rfl⟩
      · skip
        refine wt_bool ?_
        refine ww_and ?_
        refine wt_cmp ?_ (nomark _)
        refine we_ix ?_ (fun _ _ => rfl)
        refine wv 0 rfl ?_
        refine we_int ?_
        refine ix_own (k := k) (j := 0) (get2_0 hkl) rfl rfl ?_
        refine we_lst ?_
        refine wa_nil ?_
        refine ⟨(by walk_at "size"), ?_⟩
        refine od_neI0 hr.units (get2_1 hkl) ?_
        rw [decide_eq_true (rfl)]
        refine ⟨_, rfl, ?_⟩
        refine ⟨fun hb => ?_, fun hb => ?_⟩
        · walk_at "dead"
        · walk_at "tidy"
          exact ⟨fun hb => (by walk_at "dead"), fun hb => ⟨rfl, [], hg, rfl⟩⟩
      · have hgp := hg.pop
        rcases Decidable.em (y = 0) with hy | hy
        · skip
          refine wt_bool ?_
          refine ww_and ?_
          refine wt_cmp ?_ (nomark _)
          refine we_ix ?_ (fun _ _ => rfl)
          refine wv 0 rfl ?_
          refine we_int ?_
          refine ix_own (k := k) (j := 0) (get2_0 hkl) rfl rfl ?_
          refine we_lst ?_
          refine wa_nil ?_
          refine ⟨(by walk_at "size"), ?_⟩
          refine od_neI0 hr.units (get2_1 hkl) ?_
          rw [decide_eq_false (by simp)]
          refine ⟨_, rfl, ?_⟩
          refine ⟨fun hb => ?_, fun hb => ?_⟩
          · walk_at "tidy"
            refine ww_and1 ?_
            refine wt_cmp ?_ (nomark _)
            refine we_ix ?_ (fun _ _ => rfl)
            refine we_ix ?_ (fun _ _ => rfl)
            refine wv 0 rfl ?_
            refine we_int ?_
            refine ix_own (k := k) (j := 0) (get2_0 hkl) rfl rfl ?_
            refine we_un ?_
            refine we_int ?_
            refine ud_neg ?_
            refine ix_ownI (k := k + 1) (get2_1 hkl) last_ints ?_
            refine we_int ?_
            refine od_eq ?_
            rw [decide_eq_true hy]
            refine ⟨_, rfl, ?_⟩
            refine ⟨fun hb => ?_, fun hb => (by walk_at "dead")⟩
            refine ws_expr ?_
            refine we_pop ?_
            refine we_ix ?_ (fun _ _ => rfl)
            refine wv 0 rfl ?_
            refine we_int ?_
            refine ix_own (k := k) (j := 0) (get2_0 hkl) rfl rfl ?_
            refine ⟨_, k + 1, _, _, rfl, get2_1 hkl, last_ints2, ?_⟩
            rw [put2_pop]
            refine ws_nil ?_
            exact ⟨ys.length, by rw [List.length_append]; exact Nat.lt_succ_self _, ys, rfl, hgp.1, rfl, rfl⟩
          · walk_at "dead"
        · skip
          refine wt_bool ?_
          refine ww_and ?_
          refine wt_cmp ?_ (nomark _)
          refine we_ix ?_ (fun _ _ => rfl)
          refine wv 0 rfl ?_
          refine we_int ?_
          refine ix_own (k := k) (j := 0) (get2_0 hkl) rfl rfl ?_
          refine we_lst ?_
          refine wa_nil ?_
          refine ⟨(by walk_at "size"), ?_⟩
          refine od_neI0 hr.units (get2_1 hkl) ?_
          rw [decide_eq_false (by simp)]
          refine ⟨_, rfl, ?_⟩
          refine ⟨fun hb => ?_, fun hb => ?_⟩
          · walk_at "tidy"
            refine ww_and1 ?_
            refine wt_cmp ?_ (nomark _)
            refine we_ix ?_ (fun _ _ => rfl)
            refine we_ix ?_ (fun _ _ => rfl)
            refine wv 0 rfl ?_
            refine we_int ?_
            refine ix_own (k := k) (j := 0) (get2_0 hkl) rfl rfl ?_
            refine we_un ?_
            refine we_int ?_
            refine ud_neg ?_
            refine ix_ownI (k := k + 1) (get2_1 hkl) last_ints ?_
            refine we_int ?_
            refine od_eq ?_
            rw [decide_eq_false hy]
            refine ⟨_, rfl, ?_⟩
            exact ⟨fun hb => (by walk_at "dead"), fun hb => ⟨rfl, _, hg, rfl⟩⟩
          · walk_at "dead"
    rintro Γ' M' ⟨rfl, gs, hg, rfl⟩
    rcases snoc_cases gs with rfl | ⟨ys, y, rfl⟩
    · skip
      refine ws_if ?_
      refine wt_cmp ?_ (nomark _)
      refine we_ix ?_ (fun _ _ => rfl)
      refine wv 0 rfl ?_
      refine we_int ?_
      refine ix_own (k := k) (j := 0) (get2_0 hkl) rfl rfl ?_
      refine we_lst ?_
      refine wa_nil ?_
      refine ⟨(by walk_at "size"), ?_⟩
      refine od_neI0 hr.units (get2_1 hkl) ?_
      rw [decide_eq_true (rfl)]
      refine ⟨_, rfl, ?_⟩
      refine ⟨fun hb => ?_, fun hb => ?_⟩
      · walk_at "dead"
      · walk_at "tidy"
        refine ws_nil ?_
        refine ws_cons (w1_setI ?_ (by exact pg_sub pe_wp pe_wp set_list) rfl rfl rfl)
        refine we_bin ?_
        refine wcT B.int boot_int ?_
        refine wa_cons ?_
        refine we_bin ?_
        refine we_bin ?_
        refine we_ix ?_ (fun _ _ => rfl)
        refine wv 0 rfl ?_
        refine we_int ?_
        refine ix_own (k := k) (j := 1) (get2_0 hkl) rfl rfl ?_
        refine we_int ?_
        refine od_mulW (mulB ⟨by omega, by omega⟩ ⟨by omega, by omega⟩) ?_
        refine we_int ?_
        walk_at "op"
        refine wa_nil ?_
        refine cd_int ?_
        refine we_int ?_
        first
        | refine od_mod (by omega) ?_
        refine wv 0 rfl ?_
        refine we_int ?_
        refine ⟨k, 1, _, _, _, rfl, rfl, get2_0 hkl, rfl, of_decide_eq_true rfl, ?_⟩
        refine ws_wk (Γ' := [some (.adr l), some (.int many), none]) (M' := put2 M k l l2 [] ((m * 48271 + 11) % 2147483647)) (by repeat (first | exact wkE | refine wkS ?_ | refine wkN ?_)) (by rw [← put2_set1 (m := m)]; exact List.Sublist.refl _) ?_
        refine ws_ret ?_
        refine we_bin ?_
        refine wcT B.int boot_int ?_
        refine wa_cons ?_
        refine we_bin ?_
        refine we_ix ?_ (fun _ _ => rfl)
        refine wv 0 rfl ?_
        refine we_int ?_
        refine ix_own (k := k) (j := 1) (get2_0 hkl) rfl rfl ?_
        refine we_int ?_
        refine od_fdiv ⟨by decide, by decide⟩ ?_
        refine wa_nil ?_
        refine cd_int ?_
        refine wv 1 rfl ?_
        first
        | refine od_mod (by omega) ?_
        first
        | exact q _ _ _ (Int.emod_nonneg _ (by omega)) (Int.emod_lt_of_pos _ hm1) (hg.push (Int.ediv_nonneg hgp.2 (by omega)))
        | exact q _ _ _ (Int.emod_nonneg _ (by omega)) (Int.emod_lt_of_pos _ hm1) ⟨hg.1, hg.2.1, by omega, by omega⟩
    · skip
      have hgp := hg.pop
      refine ws_if ?_
      refine wt_cmp ?_ (nomark _)
      refine we_ix ?_ (fun _ _ => rfl)
      refine wv 0 rfl ?_
      refine we_int ?_
      refine ix_own (k := k) (j := 0) (get2_0 hkl) rfl rfl ?_
      refine we_lst ?_
      refine wa_nil ?_
      refine ⟨(by walk_at "size"), ?_⟩
      refine od_neI0 hr.units (get2_1 hkl) ?_
      rw [decide_eq_false (by simp)]
      refine ⟨_, rfl, ?_⟩
      refine ⟨fun hb => ?_, fun hb => ?_⟩
      · walk_at "tidy"
        refine ws_set 2 sc_Ldraw.nd ?_
        refine we_pop ?_
        refine we_ix ?_ (fun _ _ => rfl)
        refine wv 0 rfl ?_
        refine we_int ?_
        refine ix_own (k := k) (j := 0) (get2_0 hkl) rfl rfl ?_
        refine ⟨_, k + 1, _, _, rfl, get2_1 hkl, last_ints2, ?_⟩
        rw [put2_pop]
        refine ws_expr ?_
        refine we_append ?_
        refine we_ix ?_ (fun _ _ => rfl)
        refine wv 0 rfl ?_
        refine we_int ?_
        refine ix_own (k := k) (j := 0) (get2_0 hkl) rfl rfl ?_
        refine ⟨_, k + 1, _, rfl, get2_1 hkl, ?_⟩
        refine we_bin ?_
        refine wv 2 rfl ?_
        refine wv 1 rfl ?_
        refine od_fdivW (wide_div (b := 200) hm1 (by omega) (by decide) (by decide)) ?_
        refine ⟨k + 1, _, get2_1 hkl, (by rw [List.length_map]; exact Nat.lt_of_le_of_lt hgp.1.2.1 (by decide)), ?_⟩
        rw [put2_push]
        refine ws_ret ?_
        refine we_bin ?_
        refine wcT B.int boot_int ?_
        refine wa_cons ?_
        refine wv 2 rfl ?_
        refine wa_nil ?_
        refine cd_int ?_
        refine wv 1 rfl ?_
        first
        | refine od_mod (by omega) ?_
        first
        | exact q _ _ _ (Int.emod_nonneg _ (by omega)) (Int.emod_lt_of_pos _ hm1) (hg.push (Int.ediv_nonneg hgp.2 (by omega)))
        | exact q _ _ _ (Int.emod_nonneg _ (by omega)) (Int.emod_lt_of_pos _ hm1) ⟨hg.1, hg.2.1, by omega, by omega⟩
      · walk_at "dead"
abbrev s_Lpick : Stmt := top 35
theorem sc_Lpick : FnScope ["_law_deal_here", "_law_some"] ["_law_deal_here", "_law_some"] (defScope s_Lpick) := ⟨rfl, rfl, rfl, by decide +kernel, rfl, by decide +kernel, by decide +kernel⟩
theorem ok_Lpick {f : Addr} {fd : FuncData} (F : FunD K "_law_pick" "_law_pick" (defArgs s_Lpick) (defBody s_Lpick) (defScope s_Lpick) [] [] f fd) (B : Bf mg) (hDraw : HasFn P w K mg base 1 "_law_draw" S_draw) : FnOk P w K mg base CX0 2 f fd ["_law_deal_here", "_law_some"] (spOf K S_pick) := by
  refine fn_data (k := 1) F sc_Lpick (fun ds M Φ h => ?_) (fun cdv A outer s H E ds M Φ hr h => ?_)
  · obtain ⟨l, l2, k, xs, rfl | rfl, hD, hx1, hx2, q⟩ := h
    all_goals rfl
  · obtain ⟨l, l2, k, xs, hd, hD, hx1, hx2, q⟩ := h
    rcases hd with rfl | rfl
    · skip
      refine ws_ret ?_
      refine we_ix ?_ (fun _ _ => rfl)
      refine wv 1 rfl ?_
      refine wcf hDraw (hr.mono (by decide)) ?_
      refine wa_cons ?_
      refine wv 0 rfl ?_
      refine wa_cons ?_
      refine wcB B.len boot_len ?_
      refine wa_cons ?_
      refine wv 1 rfl ?_
      refine wa_nil ?_
      first
      | refine cd_len_lst ?_
      | refine cd_len_tup ?_
      refine wa_nil ?_
      refine ⟨l, l2, k, _, rfl, hD, by omega, by omega, fun r gs m h0 h1 hg => ?_⟩
      obtain ⟨j, x, ej, hj, hx⟩ := pick_in h0 h1
      first
      | refine ix_lst (j := j) ej hj ?_
      | refine ix_tup (j := j) ej hj ?_
      exact q _ _ _ hx hg
    · skip
      refine ws_ret ?_
      refine we_ix ?_ (fun _ _ => rfl)
      refine wv 1 rfl ?_
      refine wcf hDraw (hr.mono (by decide)) ?_
      refine wa_cons ?_
      refine wv 0 rfl ?_
      refine wa_cons ?_
      refine wcB B.len boot_len ?_
      refine wa_cons ?_
      refine wv 1 rfl ?_
      refine wa_nil ?_
      first
      | refine cd_len_lst ?_
      | refine cd_len_tup ?_
      refine wa_nil ?_
      refine ⟨l, l2, k, _, rfl, hD, by omega, by omega, fun r gs m h0 h1 hg => ?_⟩
      obtain ⟨j, x, ej, hj, hx⟩ := pick_in h0 h1
      first
      | refine ix_lst (j := j) ej hj ?_
      | refine ix_tup (j := j) ej hj ?_
      exact q _ _ _ hx hg
end
end Sl57

set_option Elab.async false
set_option linter.all false
set_option maxRecDepth 100000
set_option maxHeartbeats 1000000

namespace Sl57
open PySem PySem.Spec PyProof.Rows L2 Dt
set_option hygiene false
local macro_rules | `(tactic| walk_at "op") => `(tactic| (first
  | refine od_add ?_ | refine od_sub ?_ | refine od_lt ?_ | refine od_le ?_ | refine od_gt ?_ | refine od_ge ?_ | refine od_eq ?_ | refine od_ne ?_ | refine od_is ?_ | refine od_isn ?_
  | refine od_eqS ?_ | refine od_neS ?_ | refine od_eqB ?_ | refine od_neB ?_))
local macro_rules | `(tactic| walk_at "dead") => `(tactic| (first
  | (cases hb; done)
  | (exact absurd (show false = true from hb) (by decide))
  | (exact absurd (show true = false from hb) (by decide))
  | (exact absurd hb (by decide))
  | (exfalso; simp only [decide_eq_true_eq, decide_eq_false_iff_not, Bool.not_eq_true', Bool.not_eq_false'] at hb; omega)))
local macro_rules | `(tactic| walk_at "tidy") => `(tactic| (try simp only [decide_eq_true_eq, decide_eq_false_iff_not, Bool.not_eq_true', Bool.not_eq_false'] at hb))
local macro_rules | `(tactic| walk_at "truth") => `(tactic| (first | refine tr_bl ?_ | refine tr_lst ?_ | refine tr_tup ?_ | refine tr_non ?_ | refine tr_int ?_))
local macro_rules | `(tactic| walk_at "ix") => `(tactic| (first
  | refine ix_tup (j := 0) rfl rfl ?_ | refine ix_tup (j := 1) rfl rfl ?_ | refine ix_tup (j := 2) rfl rfl ?_
  | refine ix_lst (j := 0) rfl rfl ?_ | refine ix_lst (j := 1) rfl rfl ?_ | refine ix_lst (j := 2) rfl rfl ?_
  | refine ix_own (k := 0) (j := 0) rfl rfl rfl ?_
  | refine ix_own (k := 0) (j := 1) rfl rfl rfl ?_
  | refine ix_own (k := 0) (j := 2) rfl rfl rfl ?_
  | refine ix_own (k := 1) (j := 0) rfl rfl rfl ?_
  | refine ix_own (k := 1) (j := 1) rfl rfl rfl ?_
  | refine ix_own (k := 1) (j := 2) rfl rfl rfl ?_
  | refine ix_own (k := 2) (j := 0) rfl rfl rfl ?_
  | refine ix_own (k := 2) (j := 1) rfl rfl rfl ?_
  | refine ix_own (k := 2) (j := 2) rfl rfl rfl ?_
  | refine ix_own (k := 3) (j := 0) rfl rfl rfl ?_
  | refine ix_own (k := 3) (j := 1) rfl rfl rfl ?_
  | refine ix_own (k := 3) (j := 2) rfl rfl rfl ?_
  | refine ix_own (k := 4) (j := 0) rfl rfl rfl ?_
  | refine ix_own (k := 4) (j := 1) rfl rfl rfl ?_
  | refine ix_own (k := 4) (j := 2) rfl rfl rfl ?_
  | refine ix_own (k := 5) (j := 0) rfl rfl rfl ?_
  | refine ix_own (k := 5) (j := 1) rfl rfl rfl ?_
  | refine ix_own (k := 5) (j := 2) rfl rfl rfl ?_
  | refine ix_own (k := 6) (j := 0) rfl rfl rfl ?_
  | refine ix_own (k := 6) (j := 1) rfl rfl rfl ?_
  | refine ix_own (k := 6) (j := 2) rfl rfl rfl ?_
  | refine ix_own (k := 7) (j := 0) rfl rfl rfl ?_
  | refine ix_own (k := 7) (j := 1) rfl rfl rfl ?_
  | refine ix_own (k := 7) (j := 2) rfl rfl rfl ?_
  | refine ix_own (k := 8) (j := 0) rfl rfl rfl ?_
  | refine ix_own (k := 8) (j := 1) rfl rfl rfl ?_
  | refine ix_own (k := 8) (j := 2) rfl rfl rfl ?_
  | refine ix_own (k := 9) (j := 0) rfl rfl rfl ?_
  | refine ix_own (k := 9) (j := 1) rfl rfl rfl ?_
  | refine ix_own (k := 9) (j := 2) rfl rfl rfl ?_
  | refine ix_own (k := 10) (j := 0) rfl rfl rfl ?_
  | refine ix_own (k := 10) (j := 1) rfl rfl rfl ?_
  | refine ix_own (k := 10) (j := 2) rfl rfl rfl ?_
  | refine ix_own (k := 11) (j := 0) rfl rfl rfl ?_
  | refine ix_own (k := 11) (j := 1) rfl rfl rfl ?_
  | refine ix_own (k := 11) (j := 2) rfl rfl rfl ?_
  | refine ix_own (k := 12) (j := 0) rfl rfl rfl ?_
  | refine ix_own (k := 12) (j := 1) rfl rfl rfl ?_
  | refine ix_own (k := 12) (j := 2) rfl rfl rfl ?_
  | refine ix_own (k := 13) (j := 0) rfl rfl rfl ?_
  | refine ix_own (k := 13) (j := 1) rfl rfl rfl ?_
  | refine ix_own (k := 13) (j := 2) rfl rfl rfl ?_))
local macro_rules | `(tactic| walk_at "seti") => `(tactic| (first
  | refine ⟨0, 0, _, _, _, rfl, rfl, rfl, rfl, of_decide_eq_true rfl, ?_⟩
  | refine ⟨0, 1, _, _, _, rfl, rfl, rfl, rfl, of_decide_eq_true rfl, ?_⟩
  | refine ⟨0, 2, _, _, _, rfl, rfl, rfl, rfl, of_decide_eq_true rfl, ?_⟩
  | refine ⟨1, 0, _, _, _, rfl, rfl, rfl, rfl, of_decide_eq_true rfl, ?_⟩
  | refine ⟨1, 1, _, _, _, rfl, rfl, rfl, rfl, of_decide_eq_true rfl, ?_⟩
  | refine ⟨1, 2, _, _, _, rfl, rfl, rfl, rfl, of_decide_eq_true rfl, ?_⟩
  | refine ⟨2, 0, _, _, _, rfl, rfl, rfl, rfl, of_decide_eq_true rfl, ?_⟩
  | refine ⟨2, 1, _, _, _, rfl, rfl, rfl, rfl, of_decide_eq_true rfl, ?_⟩
  | refine ⟨2, 2, _, _, _, rfl, rfl, rfl, rfl, of_decide_eq_true rfl, ?_⟩
  | refine ⟨3, 0, _, _, _, rfl, rfl, rfl, rfl, of_decide_eq_true rfl, ?_⟩
  | refine ⟨3, 1, _, _, _, rfl, rfl, rfl, rfl, of_decide_eq_true rfl, ?_⟩
  | refine ⟨3, 2, _, _, _, rfl, rfl, rfl, rfl, of_decide_eq_true rfl, ?_⟩
  | refine ⟨4, 0, _, _, _, rfl, rfl, rfl, rfl, of_decide_eq_true rfl, ?_⟩
  | refine ⟨4, 1, _, _, _, rfl, rfl, rfl, rfl, of_decide_eq_true rfl, ?_⟩
  | refine ⟨4, 2, _, _, _, rfl, rfl, rfl, rfl, of_decide_eq_true rfl, ?_⟩
  | refine ⟨5, 0, _, _, _, rfl, rfl, rfl, rfl, of_decide_eq_true rfl, ?_⟩
  | refine ⟨5, 1, _, _, _, rfl, rfl, rfl, rfl, of_decide_eq_true rfl, ?_⟩
  | refine ⟨5, 2, _, _, _, rfl, rfl, rfl, rfl, of_decide_eq_true rfl, ?_⟩
  | refine ⟨6, 0, _, _, _, rfl, rfl, rfl, rfl, of_decide_eq_true rfl, ?_⟩
  | refine ⟨6, 1, _, _, _, rfl, rfl, rfl, rfl, of_decide_eq_true rfl, ?_⟩
  | refine ⟨6, 2, _, _, _, rfl, rfl, rfl, rfl, of_decide_eq_true rfl, ?_⟩
  | refine ⟨7, 0, _, _, _, rfl, rfl, rfl, rfl, of_decide_eq_true rfl, ?_⟩
  | refine ⟨7, 1, _, _, _, rfl, rfl, rfl, rfl, of_decide_eq_true rfl, ?_⟩
  | refine ⟨7, 2, _, _, _, rfl, rfl, rfl, rfl, of_decide_eq_true rfl, ?_⟩
  | refine ⟨8, 0, _, _, _, rfl, rfl, rfl, rfl, of_decide_eq_true rfl, ?_⟩
  | refine ⟨8, 1, _, _, _, rfl, rfl, rfl, rfl, of_decide_eq_true rfl, ?_⟩
  | refine ⟨8, 2, _, _, _, rfl, rfl, rfl, rfl, of_decide_eq_true rfl, ?_⟩
  | refine ⟨9, 0, _, _, _, rfl, rfl, rfl, rfl, of_decide_eq_true rfl, ?_⟩
  | refine ⟨9, 1, _, _, _, rfl, rfl, rfl, rfl, of_decide_eq_true rfl, ?_⟩
  | refine ⟨9, 2, _, _, _, rfl, rfl, rfl, rfl, of_decide_eq_true rfl, ?_⟩
  | refine ⟨10, 0, _, _, _, rfl, rfl, rfl, rfl, of_decide_eq_true rfl, ?_⟩
  | refine ⟨10, 1, _, _, _, rfl, rfl, rfl, rfl, of_decide_eq_true rfl, ?_⟩
  | refine ⟨10, 2, _, _, _, rfl, rfl, rfl, rfl, of_decide_eq_true rfl, ?_⟩
  | refine ⟨11, 0, _, _, _, rfl, rfl, rfl, rfl, of_decide_eq_true rfl, ?_⟩
  | refine ⟨11, 1, _, _, _, rfl, rfl, rfl, rfl, of_decide_eq_true rfl, ?_⟩
  | refine ⟨11, 2, _, _, _, rfl, rfl, rfl, rfl, of_decide_eq_true rfl, ?_⟩
  | refine ⟨12, 0, _, _, _, rfl, rfl, rfl, rfl, of_decide_eq_true rfl, ?_⟩
  | refine ⟨12, 1, _, _, _, rfl, rfl, rfl, rfl, of_decide_eq_true rfl, ?_⟩
  | refine ⟨12, 2, _, _, _, rfl, rfl, rfl, rfl, of_decide_eq_true rfl, ?_⟩
  | refine ⟨13, 0, _, _, _, rfl, rfl, rfl, rfl, of_decide_eq_true rfl, ?_⟩
  | refine ⟨13, 1, _, _, _, rfl, rfl, rfl, rfl, of_decide_eq_true rfl, ?_⟩
  | refine ⟨13, 2, _, _, _, rfl, rfl, rfl, rfl, of_decide_eq_true rfl, ?_⟩))
local macro_rules | `(tactic| walk_at "lst") => `(tactic| (first
  | refine cd_list (.inr (.inr ⟨0, _, rfl, rfl⟩)) ?_
  | refine cd_list (.inr (.inr ⟨1, _, rfl, rfl⟩)) ?_
  | refine cd_list (.inr (.inr ⟨2, _, rfl, rfl⟩)) ?_
  | refine cd_list (.inr (.inr ⟨3, _, rfl, rfl⟩)) ?_
  | refine cd_list (.inr (.inr ⟨4, _, rfl, rfl⟩)) ?_
  | refine cd_list (.inr (.inr ⟨5, _, rfl, rfl⟩)) ?_
  | refine cd_list (.inr (.inr ⟨6, _, rfl, rfl⟩)) ?_
  | refine cd_list (.inr (.inr ⟨7, _, rfl, rfl⟩)) ?_
  | refine cd_list (.inr (.inr ⟨8, _, rfl, rfl⟩)) ?_
  | refine cd_list (.inr (.inr ⟨9, _, rfl, rfl⟩)) ?_
  | refine cd_list (.inr (.inr ⟨10, _, rfl, rfl⟩)) ?_
  | refine cd_list (.inr (.inr ⟨11, _, rfl, rfl⟩)) ?_
  | refine cd_list (.inr (.inr ⟨12, _, rfl, rfl⟩)) ?_
  | refine cd_list (.inr (.inr ⟨13, _, rfl, rfl⟩)) ?_))
local macro_rules | `(tactic| walk_at "isi") => `(tactic| (first | refine cd_isi (k := true) rfl (by decide +kernel) ?_ | refine cd_isi (k := false) rfl (by decide +kernel) ?_))
local macro_rules | `(tactic| walk_at "size") => `(tactic| (first
  | exact (show 0 ≤ sizeLine by decide) | exact (show 1 ≤ sizeLine by decide) | exact (show 2 ≤ sizeLine by decide) | exact (show 3 ≤ sizeLine by decide) | exact (show 4 ≤ sizeLine by decide) | exact (show 5 ≤ sizeLine by decide) | exact (show 6 ≤ sizeLine by decide) | exact (of_decide_eq_true rfl) | exact (Nat.le_of_ble_eq_true rfl)))

section
variable {P : Program} {w : World} {K : PySem.W.Frag} {mg : Str → Option Value} {base : Heap}
/-! ### words -/
def isInt : D → Bool
  | .int _ => true
  | _ => false
def S_is_integer : DS := fun ds M Φ => ∃ d t, ds = [d] ∧ tyD d = some t ∧ Φ (.bl (isInt d)) M
def tyAll : D → Bool
  | .tup xs => xs.all fun x => (tyD x).isSome
  | _ => true
def areInts : D → Int → Bool
  | .tup xs, n => decide ((xs.length : Int) = n) && xs.all isInt
  | _, _ => false
theorem areInts_yes {xs : List D} {n : Int} (h : (xs.length : Int) = n) : areInts (.tup xs) n = (xs.map isInt).all id := by
  show (decide ((xs.length : Int) = n) && xs.all isInt) = _
  rw [decide_eq_true h, Bool.true_and, List.all_map]
  rfl
theorem areInts_no {xs : List D} {n : Int} (h : ¬ (xs.length : Int) = n) : areInts (.tup xs) n = false := by
  show (decide ((xs.length : Int) = n) && xs.all isInt) = _
  rw [decide_eq_false h, Bool.false_and]
def S_are_integers : DS := fun ds M Φ => ∃ d t n, ds = [d, .int n] ∧ tyD d = some t ∧ tyAll d = true ∧ (∀ xs, d = .tup xs → xs.length < sizeLine) ∧ Φ (.bl (areInts d n)) M
def S_is_cell : DS := fun ds M Φ => ∃ d t, ds = [d] ∧ tyD d = some t ∧ tyAll d = true ∧ (∀ xs, d = .tup xs → xs.length < sizeLine) ∧ Φ (.bl (areInts d 2)) M
def S_greater : DS := fun ds M Φ => ∃ i j : Int, ds = [.int i, .int j] ∧ Φ (.int (max i j)) M
def S_lesser : DS := fun ds M Φ => ∃ i j : Int, ds = [.int i, .int j] ∧ Φ (.int (min i j)) M
theorem use_greater {i j : Int} {M : Mem} {Φ : VP} (q : Φ (.int (max i j)) M) : S_greater [.int i, .int j] M Φ := ⟨i, j, rfl, q⟩
theorem use_lesser {i j : Int} {M : Mem} {Φ : VP} (q : Φ (.int (min i j)) M) : S_lesser [.int i, .int j] M Φ := ⟨i, j, rfl, q⟩
abbrev tp (i j : Int) : D := .tup [.int i, .int j]
theorem use_is_cell {i j : Int} {M : Mem} {Φ : VP} (q : Φ (.bl true) M) : S_is_cell [tp i j] M Φ := ⟨_, _, rfl, rfl, rfl, fun xs e => by cases e; exact (show 2 < sizeLine by decide), q⟩
/-! ### names -/
def rowW : List Str := ["start", "go", "if", "else", "while", "see", "stop", "end", "never"]
def fauW : List Str := ["astray", "barred", "endless", "halted"]
def letS : Str := "abcdefghijklmnopqrstuvwxyz"
structure WG (K : PySem.W.Frag) (mg : Str → Option Value) : Prop where
  most : ∃ t, mg "MOST_LETTERS" = some (.int 6 t)
  lett : ∃ t, mg "LETTERS" = some (.str letS t)
  row : ∃ a, mg "ROW_WORDS" = some (.ref a) ∧ ∀ H : Hp, SqT K H a (rowW.map V.str)
  fau : ∃ a, mg "FAULTS" = some (.ref a) ∧ ∀ H : Hp, SqT K H a (fauW.map V.str)
def nameOk (x : Str) : Bool := decide (0 < x.length ∧ x.length ≤ 6) && (!decide (x ∈ rowW) && (!decide (x ∈ fauW) && x.cps.toList.all fun c => decide (c ∈ letS.cps.toList)))
def isName : D → Bool
  | .str x => nameOk x
  | _ => false
theorem nm1 {x : Str} (h : ¬ (0 < x.length ∧ x.length ≤ 6)) : nameOk x = false := by
  unfold nameOk
  rw [decide_eq_false h, Bool.false_and]
theorem nm2 {x : Str} (h : x ∈ rowW) : nameOk x = false := by
  unfold nameOk
  rw [decide_eq_true h, Bool.not_true, Bool.false_and, Bool.and_false]
theorem nm3 {x : Str} (h : x ∈ fauW) : nameOk x = false := by
  unfold nameOk
  rw [decide_eq_true h, Bool.not_true, Bool.false_and, Bool.and_false, Bool.and_false]
theorem nm4 {x : Str} (h : 0 < x.length ∧ x.length ≤ 6) (h2 : ¬ x ∈ rowW) (h3 : ¬ x ∈ fauW) : nameOk x = (x.cps.toList.map fun c => decide (c ∈ letS.cps.toList)).all id := by
  unfold nameOk
  rw [decide_eq_true h, decide_eq_false h2, decide_eq_false h3, Bool.not_false, Bool.true_and, Bool.true_and, Bool.true_and, List.all_map]
  rfl
def S_is_name : DS := fun ds M Φ => ∃ d t, ds = [d] ∧ tyD d = some t ∧ (∀ x, d = .str x → x.length ≤ 1000) ∧ Φ (.bl (isName d)) M
def S_are_integersO (K : PySem.W.Frag) : DS := fun ds M Φ => ∃ C fs n, ds = [.obj C fs, .int n] ∧ IsF K C ∧ PySem.W.kitOne K (.ref C) (.type "tuple") = some false ∧ Φ (.bl false) M
def S_is_cellO (K : PySem.W.Frag) : DS := fun ds M Φ => ∃ C fs, ds = [.obj C fs] ∧ IsF K C ∧ PySem.W.kitOne K (.ref C) (.type "tuple") = some false ∧ Φ (.bl false) M
theorem areInts2 {d : D} (h : areInts d 2 = true) : ∃ x y : Int, d = .tup [.int x, .int y] := by
  cases d with
  | tup xs =>
    have h : (decide ((xs.length : Int) = 2) && xs.all isInt) = true := h
    obtain ⟨h1, h2⟩ := Bool.and_eq_true_iff.mp h
    have h1 := of_decide_eq_true h1
    match xs, h1, h2 with
    | [a, b], _, h2 =>
      cases a <;> cases b <;> first | exact ⟨_, _, rfl⟩ | (cases h2)
  | _ => cases h
abbrev s_is_integer : Stmt := top 11
theorem sc_is_integer : FnScope ["value"] ["value"] (defScope s_is_integer) := ⟨rfl, rfl, rfl, by decide +kernel, rfl, by decide +kernel, by decide +kernel⟩
theorem ok_is_integer {f : Addr} {fd : FuncData} (F : FunD K "is_integer" "is_integer" (defArgs s_is_integer) (defBody s_is_integer) (defScope s_is_integer) [] [] f fd) (B : Bf mg) : FnOk P w K mg base CX0 1 f fd ["value"] (spOf K S_is_integer) := by
  refine fn_data (k := 0) F sc_is_integer (fun ds M Φ h => ?_) (fun cdv A outer s H E ds M Φ hr h => ?_)
  · obtain ⟨d, t, rfl, ht, q⟩ := h
    all_goals rfl
  · obtain ⟨d, t, rfl, ht, q⟩ := h
    cases d with
    | ty n => cases ht
    | obj C fs => cases ht
    | adr a => cases ht
    | dic ks => cases ht
    | _ =>
      refine ws_ret ?_
      refine we_and ?_
      refine wcB B.isi boot_isinstance ?_
      refine wa_cons ?_
      refine wv 0 rfl ?_
      refine wa_cons ?_
      refine wbt B.int boot_int ?_
      refine wa_nil ?_
      walk_at "isi"
      refine ⟨_, rfl, fun hb => ?_, fun hb => ?_⟩
      · first
        | (walk_at "dead")
        | (
          walk_at "tidy"
          refine we_one ?_
          refine wnotv ?_
          refine wcB B.isi boot_isinstance ?_
          refine wa_cons ?_
          refine wv 0 rfl ?_
          refine wa_cons ?_
          refine wbt B.bool boot_bool ?_
          refine wa_nil ?_
          walk_at "isi"
          walk_at "truth"
          exact q)
      · first
        | (walk_at "dead")
        | (
          walk_at "tidy"
          exact q)
abbrev s_are_integers : Stmt := top 14
theorem sc_are_integers : FnScope ["value", "many", "one"] ["value", "many"] (defScope s_are_integers) := ⟨rfl, rfl, rfl, by decide +kernel, rfl, by decide +kernel, by decide +kernel⟩
theorem ok_are_integers {f : Addr} {fd : FuncData} (F : FunD K "are_integers" "are_integers" (defArgs s_are_integers) (defBody s_are_integers) (defScope s_are_integers) [] [] f fd) (B : Bf mg) (hI : HasFn P w K mg base 1 "is_integer" S_is_integer) : FnOk P w K mg base CX0 2 f fd ["value", "many"] (spOf K S_are_integers) := by
  refine fn_data (k := 1) F sc_are_integers (fun ds M Φ h => ?_) (fun cdv A outer s H E ds M Φ hr h => ?_)
  · obtain ⟨d, t, n, rfl, ht, ha, hl, q⟩ := h
    all_goals rfl
  · obtain ⟨d, t, n, rfl, ht, ha, hl, q⟩ := h
    cases d with
    | ty n => cases ht
    | obj C fs => cases ht
    | adr a => cases ht
    | dic ks => cases ht
    | tup xs =>
      refine ws_ret ?_
      refine we_and ?_
      refine wcB B.isi boot_isinstance ?_
      refine wa_cons ?_
      refine wv 0 rfl ?_
      refine wa_cons ?_
      refine wbt B.tuple boot_tuple ?_
      refine wa_nil ?_
      walk_at "isi"
      refine ⟨_, rfl, fun hb => ?_, fun hb => ?_⟩
      · first
        | (walk_at "dead")
        | (
          walk_at "tidy"
          refine we_and ?_
          refine we_cmp ?_ (nomark _)
          refine wcB B.len boot_len ?_
          refine wa_cons ?_
          refine wv 0 rfl ?_
          refine wa_nil ?_
          refine cd_len_tup ?_
          refine wv 1 rfl ?_
          walk_at "op"
          refine ⟨_, rfl, fun hb => ?_, fun hb => ?_⟩
          · first
            | (walk_at "dead")
            | (
              walk_at "tidy"
              refine we_one ?_
              refine wcB B.all bt_all ?_
              refine wa_cons ?_
              refine lcMapT (own := [("one", 2)]) (j := 2) sc_are_integers.nd ?_ (blkOk_by (N := ["value", "many", "one"]) (sc := defScope s_are_integers) (by decide +kernel)) (fun _ _ _ _ _ => pg_name (i := 2) sc_are_integers.nd rfl (Or.inl rfl))
              refine wv 0 rfl ?_
              refine ⟨_, fun y => .bl (isInt y), rfl, hl _ rfl, fun i y hy l out s H C cl fp => ?_, ?_⟩
              · refine wcf hI (hr.mono (by decide)) ?_
                refine wa_cons ?_
                refine wv 2 rfl ?_
                refine wa_nil ?_
                have hm := List.all_eq_true.mp ha y (List.mem_of_getElem? hy)
                obtain ⟨t', ht'⟩ := Option.isSome_iff_exists.mp hm
                exact ⟨y, t', rfl, ht', rfl, rfl⟩
              have em : (xs.map fun y => D.bl (isInt y)) = (xs.map isInt).map D.bl := by rw [List.map_map]; rfl
              rw [em]
              refine wa_nil ?_
              refine cd_all rfl ?_
              first
              | exact q
              | (rw [areInts_yes hb] at q; exact q)
              | (rw [areInts_no hb] at q; exact q))
          · first
            | (walk_at "dead")
            | (
              walk_at "tidy"
              first
              | exact q
              | (rw [areInts_yes hb] at q; exact q)
              | (rw [areInts_no hb] at q; exact q)))
      · first
        | (walk_at "dead")
        | (
          walk_at "tidy"
          first
          | exact q
          | (rw [areInts_yes hb] at q; exact q)
          | (rw [areInts_no hb] at q; exact q))
    | _ =>
      refine ws_ret ?_
      refine we_and ?_
      refine wcB B.isi boot_isinstance ?_
      refine wa_cons ?_
      refine wv 0 rfl ?_
      refine wa_cons ?_
      refine wbt B.tuple boot_tuple ?_
      refine wa_nil ?_
      walk_at "isi"
      refine ⟨_, rfl, fun hb => ?_, fun hb => ?_⟩
      · first
        | (walk_at "dead")
        | (
          walk_at "tidy"
          refine we_and ?_
          refine we_cmp ?_ (nomark _)
          refine wcB B.len boot_len ?_
          refine wa_cons ?_
          refine wv 0 rfl ?_
          refine wa_nil ?_
          refine cd_len_tup ?_
          refine wv 1 rfl ?_
          walk_at "op"
          refine ⟨_, rfl, fun hb => ?_, fun hb => ?_⟩
          · first
            | (walk_at "dead")
            | (
              walk_at "tidy"
              refine we_one ?_
              refine wcB B.all bt_all ?_
              refine wa_cons ?_
              refine lcMapT (own := [("one", 2)]) (j := 2) sc_are_integers.nd ?_ (blkOk_by (N := ["value", "many", "one"]) (sc := defScope s_are_integers) (by decide +kernel)) (fun _ _ _ _ _ => pg_name (i := 2) sc_are_integers.nd rfl (Or.inl rfl))
              refine wv 0 rfl ?_
              refine ⟨_, fun y => .bl (isInt y), rfl, hl _ rfl, fun i y hy l out s H C cl fp => ?_, ?_⟩
              · refine wcf hI (hr.mono (by decide)) ?_
                refine wa_cons ?_
                refine wv 2 rfl ?_
                refine wa_nil ?_
                have hm := List.all_eq_true.mp ha y (List.mem_of_getElem? hy)
                obtain ⟨t', ht'⟩ := Option.isSome_iff_exists.mp hm
                exact ⟨y, t', rfl, ht', rfl, rfl⟩
              have em : (xs.map fun y => D.bl (isInt y)) = (xs.map isInt).map D.bl := by rw [List.map_map]; rfl
              rw [em]
              refine wa_nil ?_
              refine cd_all rfl ?_
              first
              | exact q
              | (rw [areInts_yes hb] at q; exact q)
              | (rw [areInts_no hb] at q; exact q))
          · first
            | (walk_at "dead")
            | (
              walk_at "tidy"
              first
              | exact q
              | (rw [areInts_yes hb] at q; exact q)
              | (rw [areInts_no hb] at q; exact q)))
      · first
        | (walk_at "dead")
        | (
          walk_at "tidy"
          first
          | exact q
          | (rw [areInts_yes hb] at q; exact q)
          | (rw [areInts_no hb] at q; exact q))
abbrev s_is_cell : Stmt := top 15
theorem sc_is_cell : FnScope ["value"] ["value"] (defScope s_is_cell) := ⟨rfl, rfl, rfl, by decide +kernel, rfl, by decide +kernel, by decide +kernel⟩
theorem ok_is_cell {f : Addr} {fd : FuncData} (F : FunD K "is_cell" "is_cell" (defArgs s_is_cell) (defBody s_is_cell) (defScope s_is_cell) [] [] f fd) (hA : HasFn P w K mg base 2 "are_integers" S_are_integers) : FnOk P w K mg base CX0 3 f fd ["value"] (spOf K S_is_cell) := by
  refine fn_data (k := 2) F sc_is_cell (fun ds M Φ h => ?_) (fun cdv A outer s H E ds M Φ hr h => ?_)
  · obtain ⟨d, t, rfl, ht, ha, hl, q⟩ := h
    all_goals rfl
  · obtain ⟨d, t, rfl, ht, ha, hl, q⟩ := h
    refine ws_ret ?_
    refine wcf hA (hr.mono (by decide)) ?_
    refine wa_cons ?_
    refine wv 0 rfl ?_
    refine wa_cons ?_
    refine we_int ?_
    refine wa_nil ?_
    exact ⟨d, t, 2, rfl, ht, ha, hl, q⟩
    skip
theorem ok_are_integersO {f : Addr} {fd : FuncData} (F : FunD K "are_integers" "are_integers" (defArgs s_are_integers) (defBody s_are_integers) (defScope s_are_integers) [] [] f fd) (B : Bf mg) : FnOk P w K mg base CX0 1 f fd ["value", "many"] (spOf K (S_are_integersO K)) := by
  refine fn_data (k := 0) F sc_are_integers (fun ds M Φ h => ?_) (fun cdv A outer s H E ds M Φ hr h => ?_)
  · obtain ⟨C, fs, n, rfl, hI, hk, q⟩ := h
    all_goals rfl
  · obtain ⟨C, fs, n, rfl, hI, hk, q⟩ := h
    refine ws_ret ?_
    refine we_and ?_
    refine wcB B.isi boot_isinstance ?_
    refine wa_cons ?_
    refine wv 0 rfl ?_
    refine wa_cons ?_
    refine wbt B.tuple boot_tuple ?_
    refine wa_nil ?_
    refine cd_isiCT (.inl rfl) hI hk ?_
    refine ⟨_, rfl, fun hb => ?_, fun hb => ?_⟩
    · walk_at "dead"
    · walk_at "tidy"
      exact q
theorem ok_is_cellO {f : Addr} {fd : FuncData} (F : FunD K "is_cell" "is_cell" (defArgs s_is_cell) (defBody s_is_cell) (defScope s_is_cell) [] [] f fd) (hAO : HasFn P w K mg base 1 "are_integers" (S_are_integersO K)) : FnOk P w K mg base CX0 3 f fd ["value"] (spOf K (S_is_cellO K)) := by
  refine fn_data (k := 2) F sc_is_cell (fun ds M Φ h => ?_) (fun cdv A outer s H E ds M Φ hr h => ?_)
  · obtain ⟨C, fs, rfl, hI, hk, q⟩ := h
    all_goals rfl
  · obtain ⟨C, fs, rfl, hI, hk, q⟩ := h
    refine ws_ret ?_
    refine wcf hAO (hr.mono (by decide)) ?_
    refine wa_cons ?_
    refine wv 0 rfl ?_
    refine wa_cons ?_
    refine we_int ?_
    refine wa_nil ?_
    exact ⟨C, fs, 2, rfl, hI, hk, q⟩
    skip
abbrev s_is_name : Stmt := top 13
theorem sc_is_name : FnScope ["value", "sign"] ["value"] (defScope s_is_name) := ⟨rfl, rfl, rfl, by decide +kernel, rfl, by decide +kernel, by decide +kernel⟩
theorem ok_is_name {f : Addr} {fd : FuncData} (F : FunD K "is_name" "is_name" (defArgs s_is_name) (defBody s_is_name) (defScope s_is_name) [] [] f fd) (B : Bf mg) (G : WG K mg) : FnOk P w K mg base CX0 1 f fd ["value"] (spOf K S_is_name) := by
  refine fn_data (k := 0) F sc_is_name (fun ds M Φ h => ?_) (fun cdv A outer s H E ds M Φ hr h => ?_)
  · obtain ⟨d, t, rfl, ht, hx, q⟩ := h
    all_goals rfl
  · obtain ⟨d, t, rfl, ht, hx, q⟩ := h
    obtain ⟨a3, g3, t3⟩ := G.row
    obtain ⟨a4, g4, t4⟩ := G.fau
    cases d with
    | ty n => cases ht
    | obj C fs => cases ht
    | adr a => cases ht
    | dic ks => cases ht
    | str x =>
      have hxl := hx x rfl
      have hsz : sizeLine = 2 ^ 24 := rfl
      rcases Decidable.em (x ∈ rowW) with h2 | h2
      · skip
        refine ws_if ?_
        refine wt_bool ?_
        refine ww_or ?_
        refine wt_not ?_
        refine wt_val ?_ (by intro _; rfl)
        refine wcB B.isi boot_isinstance ?_
        refine wa_cons ?_
        refine wv 0 rfl ?_
        refine wa_cons ?_
        refine wbt B.str boot_str ?_
        refine wa_nil ?_
        walk_at "isi"
        walk_at "truth"
        refine ⟨fun hb => ?_, fun hb => ?_⟩
        · walk_at "dead"
        · walk_at "tidy"
          refine ww_or ?_
          refine wt_not ?_
          refine wt_chain ?_
          refine we_int ?_
          refine wcB B.len boot_len ?_
          refine wa_cons ?_
          refine wv 0 rfl ?_
          refine wa_nil ?_
          refine cd_len_str (by omega) ?_
          walk_at "op"
          refine ⟨_, rfl, fun hb => ?_, fun hb => ?_⟩
          · first
            | (walk_at "dead")
            | (
              walk_at "tidy"
              refine we_gint G.most ?_
              walk_at "op"
              refine ⟨_, rfl, ?_⟩
              refine ⟨fun hb => ?_, fun hb => ?_⟩
              · first
                | (walk_at "dead")
                | (
                  walk_at "tidy"
                  refine ⟨fun hb => ?_, fun hb => ?_⟩
                  · walk_at "tidy"
                    refine ws_ret ?_
                    refine we_bl ?_
                    first
                    | exact q
                    | (rw [show isName (.str x) = false from nm1 (by omega)] at q; exact q)
                    | (rw [show isName (.str x) = false from nm2 h2] at q; exact q)
                    | (rw [show isName (.str x) = false from nm3 h3] at q; exact q)
                    | (rw [show isName (.str x) = _ from nm4 (by omega) h2 h3] at q; exact q)
                  · walk_at "dead")
              · first
                | (walk_at "dead")
                | (
                  walk_at "tidy"
                  refine ww_or ?_
                  refine wt_cmp ?_ (by rfl)
                  refine wv 0 rfl ?_
                  refine we_gtup g3 t3 ?_
                  refine od_inTS ?_
                  first
                  | rw [decide_eq_true h2]
                  | rw [decide_eq_false h2]
                  refine ⟨_, rfl, ?_⟩
                  refine ⟨fun hb => ?_, fun hb => ?_⟩
                  · walk_at "tidy"
                    refine ⟨fun hb => ?_, fun hb => ?_⟩
                    · walk_at "tidy"
                      refine ws_ret ?_
                      refine we_bl ?_
                      first
                      | exact q
                      | (rw [show isName (.str x) = false from nm1 (by omega)] at q; exact q)
                      | (rw [show isName (.str x) = false from nm2 h2] at q; exact q)
                      | (rw [show isName (.str x) = false from nm3 h3] at q; exact q)
                      | (rw [show isName (.str x) = _ from nm4 (by omega) h2 h3] at q; exact q)
                    · walk_at "dead"
                  · walk_at "dead"))
          · first
            | (walk_at "dead")
            | (
              walk_at "tidy"
              refine ⟨fun hb => ?_, fun hb => ?_⟩
              · walk_at "tidy"
                refine ⟨fun hb => ?_, fun hb => ?_⟩
                · walk_at "tidy"
                  refine ws_ret ?_
                  refine we_bl ?_
                  first
                  | exact q
                  | (rw [show isName (.str x) = false from nm1 (by omega)] at q; exact q)
                  | (rw [show isName (.str x) = false from nm2 h2] at q; exact q)
                  | (rw [show isName (.str x) = false from nm3 h3] at q; exact q)
                  | (rw [show isName (.str x) = _ from nm4 (by omega) h2 h3] at q; exact q)
                · walk_at "dead"
              · walk_at "dead")
      · rcases Decidable.em (x ∈ fauW) with h3 | h3
        · skip
          refine ws_if ?_
          refine wt_bool ?_
          refine ww_or ?_
          refine wt_not ?_
          refine wt_val ?_ (by intro _; rfl)
          refine wcB B.isi boot_isinstance ?_
          refine wa_cons ?_
          refine wv 0 rfl ?_
          refine wa_cons ?_
          refine wbt B.str boot_str ?_
          refine wa_nil ?_
          walk_at "isi"
          walk_at "truth"
          refine ⟨fun hb => ?_, fun hb => ?_⟩
          · walk_at "dead"
          · walk_at "tidy"
            refine ww_or ?_
            refine wt_not ?_
            refine wt_chain ?_
            refine we_int ?_
            refine wcB B.len boot_len ?_
            refine wa_cons ?_
            refine wv 0 rfl ?_
            refine wa_nil ?_
            refine cd_len_str (by omega) ?_
            walk_at "op"
            refine ⟨_, rfl, fun hb => ?_, fun hb => ?_⟩
            · first
              | (walk_at "dead")
              | (
                walk_at "tidy"
                refine we_gint G.most ?_
                walk_at "op"
                refine ⟨_, rfl, ?_⟩
                refine ⟨fun hb => ?_, fun hb => ?_⟩
                · first
                  | (walk_at "dead")
                  | (
                    walk_at "tidy"
                    refine ⟨fun hb => ?_, fun hb => ?_⟩
                    · walk_at "tidy"
                      refine ws_ret ?_
                      refine we_bl ?_
                      first
                      | exact q
                      | (rw [show isName (.str x) = false from nm1 (by omega)] at q; exact q)
                      | (rw [show isName (.str x) = false from nm2 h2] at q; exact q)
                      | (rw [show isName (.str x) = false from nm3 h3] at q; exact q)
                      | (rw [show isName (.str x) = _ from nm4 (by omega) h2 h3] at q; exact q)
                    · walk_at "dead")
                · first
                  | (walk_at "dead")
                  | (
                    walk_at "tidy"
                    refine ww_or ?_
                    refine wt_cmp ?_ (by rfl)
                    refine wv 0 rfl ?_
                    refine we_gtup g3 t3 ?_
                    refine od_inTS ?_
                    first
                    | rw [decide_eq_true h2]
                    | rw [decide_eq_false h2]
                    refine ⟨_, rfl, ?_⟩
                    refine ⟨fun hb => ?_, fun hb => ?_⟩
                    · walk_at "dead"
                    · walk_at "tidy"
                      refine ww_or1 ?_
                      refine wt_cmp ?_ (by rfl)
                      refine wv 0 rfl ?_
                      refine we_gtup g4 t4 ?_
                      refine od_inTS ?_
                      first
                      | rw [decide_eq_true h3]
                      | rw [decide_eq_false h3]
                      refine ⟨_, rfl, ?_⟩
                      refine ⟨fun hb => ?_, fun hb => ?_⟩
                      · walk_at "tidy"
                        refine ws_ret ?_
                        refine we_bl ?_
                        first
                        | exact q
                        | (rw [show isName (.str x) = false from nm1 (by omega)] at q; exact q)
                        | (rw [show isName (.str x) = false from nm2 h2] at q; exact q)
                        | (rw [show isName (.str x) = false from nm3 h3] at q; exact q)
                        | (rw [show isName (.str x) = _ from nm4 (by omega) h2 h3] at q; exact q)
                      · walk_at "dead"))
            · first
              | (walk_at "dead")
              | (
                walk_at "tidy"
                refine ⟨fun hb => ?_, fun hb => ?_⟩
                · walk_at "tidy"
                  refine ⟨fun hb => ?_, fun hb => ?_⟩
                  · walk_at "tidy"
                    refine ws_ret ?_
                    refine we_bl ?_
                    first
                    | exact q
                    | (rw [show isName (.str x) = false from nm1 (by omega)] at q; exact q)
                    | (rw [show isName (.str x) = false from nm2 h2] at q; exact q)
                    | (rw [show isName (.str x) = false from nm3 h3] at q; exact q)
                    | (rw [show isName (.str x) = _ from nm4 (by omega) h2 h3] at q; exact q)
                  · walk_at "dead"
                · walk_at "dead")
        · skip
          refine ws_if ?_
          refine wt_bool ?_
          refine ww_or ?_
          refine wt_not ?_
          refine wt_val ?_ (by intro _; rfl)
          refine wcB B.isi boot_isinstance ?_
          refine wa_cons ?_
          refine wv 0 rfl ?_
          refine wa_cons ?_
          refine wbt B.str boot_str ?_
          refine wa_nil ?_
          walk_at "isi"
          walk_at "truth"
          refine ⟨fun hb => ?_, fun hb => ?_⟩
          · walk_at "dead"
          · walk_at "tidy"
            refine ww_or ?_
            refine wt_not ?_
            refine wt_chain ?_
            refine we_int ?_
            refine wcB B.len boot_len ?_
            refine wa_cons ?_
            refine wv 0 rfl ?_
            refine wa_nil ?_
            refine cd_len_str (by omega) ?_
            walk_at "op"
            refine ⟨_, rfl, fun hb => ?_, fun hb => ?_⟩
            · first
              | (walk_at "dead")
              | (
                walk_at "tidy"
                refine we_gint G.most ?_
                walk_at "op"
                refine ⟨_, rfl, ?_⟩
                refine ⟨fun hb => ?_, fun hb => ?_⟩
                · first
                  | (walk_at "dead")
                  | (
                    walk_at "tidy"
                    refine ⟨fun hb => ?_, fun hb => ?_⟩
                    · walk_at "tidy"
                      refine ws_ret ?_
                      refine we_bl ?_
                      first
                      | exact q
                      | (rw [show isName (.str x) = false from nm1 (by omega)] at q; exact q)
                      | (rw [show isName (.str x) = false from nm2 h2] at q; exact q)
                      | (rw [show isName (.str x) = false from nm3 h3] at q; exact q)
                      | (rw [show isName (.str x) = _ from nm4 (by omega) h2 h3] at q; exact q)
                    · walk_at "dead")
                · first
                  | (walk_at "dead")
                  | (
                    walk_at "tidy"
                    refine ww_or ?_
                    refine wt_cmp ?_ (by rfl)
                    refine wv 0 rfl ?_
                    refine we_gtup g3 t3 ?_
                    refine od_inTS ?_
                    first
                    | rw [decide_eq_true h2]
                    | rw [decide_eq_false h2]
                    refine ⟨_, rfl, ?_⟩
                    refine ⟨fun hb => ?_, fun hb => ?_⟩
                    · walk_at "dead"
                    · walk_at "tidy"
                      refine ww_or1 ?_
                      refine wt_cmp ?_ (by rfl)
                      refine wv 0 rfl ?_
                      refine we_gtup g4 t4 ?_
                      refine od_inTS ?_
                      first
                      | rw [decide_eq_true h3]
                      | rw [decide_eq_false h3]
                      refine ⟨_, rfl, ?_⟩
                      refine ⟨fun hb => ?_, fun hb => ?_⟩
                      · walk_at "dead"
                      · walk_at "tidy"
                        refine ws_nil ?_
                        refine ws_ret ?_
                        refine wcB B.all bt_all ?_
                        refine wa_cons ?_
                        refine lcMapS (own := [("sign", 1)]) (j := 1) sc_is_name.nd ?_ (blkOk_by (N := ["value", "sign"]) (sc := defScope s_is_name) (by decide +kernel)) (fun _ _ _ _ _ => pg_name (i := 1) sc_is_name.nd rfl (Or.inl rfl))
                        refine wv 0 rfl ?_
                        refine ⟨x, fun c => .bl (decide (c ∈ letS.cps.toList)), rfl, (Nat.lt_of_le_of_lt (show x.cps.size ≤ 1000 from hx x rfl) (by decide)), fun c hc l out s H C cl fp => ?_, ?_⟩
                        · refine we_cmp ?_ (by rfl)
                          refine wv 1 rfl ?_
                          refine we_gstr G.lett ?_
                          refine od_inSign ?_
                          exact ⟨rfl, rfl⟩
                        rw [show (x.cps.toList.map fun c => D.bl (decide (c ∈ letS.cps.toList))) = (x.cps.toList.map fun c => decide (c ∈ letS.cps.toList)).map D.bl by rw [List.map_map]; rfl]
                        refine wa_nil ?_
                        refine cd_all rfl ?_
                        first
                        | exact q
                        | (rw [show isName (.str x) = false from nm1 (by omega)] at q; exact q)
                        | (rw [show isName (.str x) = false from nm2 h2] at q; exact q)
                        | (rw [show isName (.str x) = false from nm3 h3] at q; exact q)
                        | (rw [show isName (.str x) = _ from nm4 (by omega) h2 h3] at q; exact q)))
            · first
              | (walk_at "dead")
              | (
                walk_at "tidy"
                refine ⟨fun hb => ?_, fun hb => ?_⟩
                · walk_at "tidy"
                  refine ⟨fun hb => ?_, fun hb => ?_⟩
                  · walk_at "tidy"
                    refine ws_ret ?_
                    refine we_bl ?_
                    first
                    | exact q
                    | (rw [show isName (.str x) = false from nm1 (by omega)] at q; exact q)
                    | (rw [show isName (.str x) = false from nm2 h2] at q; exact q)
                    | (rw [show isName (.str x) = false from nm3 h3] at q; exact q)
                    | (rw [show isName (.str x) = _ from nm4 (by omega) h2 h3] at q; exact q)
                  · walk_at "dead"
                · walk_at "dead")
    | _ =>
      refine ws_if ?_
      refine wt_bool ?_
      refine ww_or ?_
      refine wt_not ?_
      refine wt_val ?_ (by intro _; rfl)
      refine wcB B.isi boot_isinstance ?_
      refine wa_cons ?_
      refine wv 0 rfl ?_
      refine wa_cons ?_
      refine wbt B.str boot_str ?_
      refine wa_nil ?_
      walk_at "isi"
      walk_at "truth"
      refine ⟨fun hb => ?_, fun hb => ?_⟩
      · walk_at "tidy"
        refine ⟨fun hb => ?_, fun hb => ?_⟩
        · walk_at "tidy"
          refine ws_ret ?_
          refine we_bl ?_
          first
          | exact q
          | (rw [show isName (.str x) = false from nm1 (by omega)] at q; exact q)
          | (rw [show isName (.str x) = false from nm2 h2] at q; exact q)
          | (rw [show isName (.str x) = false from nm3 h3] at q; exact q)
          | (rw [show isName (.str x) = _ from nm4 (by omega) h2 h3] at q; exact q)
        · walk_at "dead"
      · walk_at "dead"
/-! ### rooms and marks -/
def S_need : DS := fun ds M Φ => ∃ (nm : Str) (a b c e : Int), ds = [.str nm, tp a b, tp c e] ∧ nameOk nm = true ∧ nm.length ≤ 1000 ∧ a ≤ c ∧ b ≤ e ∧ Φ .non M
/-- what may be asked whether it is a cell -/
def CellArg (K : PySem.W.Frag) (d : D) : Prop := (∃ t, tyD d = some t ∧ tyAll d = true ∧ ∀ xs, d = .tup xs → xs.length < sizeLine) ∨ ∃ C fs, d = .obj C fs ∧ IsF K C ∧ PySem.W.kitOne K (.ref C) (.type "tuple") = some false
def btw (a b c e : Int) : D → Bool
  | .tup [.int x, .int y] => decide ((a ≤ x ∧ x ≤ c) ∧ b ≤ y ∧ y ≤ e)
  | _ => false
theorem btw_no {a b c e : Int} {d : D} (h : areInts d 2 = false) : btw a b c e d = false := by
  cases d with
  | tup xs =>
    match xs, h with
    | [], _ => rfl
    | [_], _ => (rename_i x _; cases x <;> rfl)
    | x :: y :: z :: r, _ => (cases x <;> first | rfl | (cases y <;> rfl))
    | [x, y], h => (cases x <;> first | rfl | (cases y <;> first | rfl | (cases h)))
  | _ => rfl
def S_between (K : PySem.W.Frag) : DS := fun ds M Φ => ∃ (d : D) (a b c e : Int), ds = [d, tp a b, tp c e] ∧ CellArg K d ∧ Φ (.bl (btw a b c e d)) M
structure RmC (K : PySem.W.Frag) (C : Addr) (last : Str) : Prop where
  cls : Cls K C
  nn : NoAttr K C "name"
  nl : NoAttr K C "low"
  nh : NoAttr K C "high"
  nb : NoAttr K C last
def roomF (nm : Str) (a b c e : Int) (last : Str) (v : D) : List (Str × D) := [("name", .str nm), ("low", tp a b), ("high", tp c e), (last, v)]
def S_room (C : Addr) : DS := fun ds M Φ => ∃ (l : Addr) (nm : Str) (a b c e : Int) (bd : Bool) (M' : Mem), ds = [.adr l, .str nm, tp a b, tp c e, .bl bd] ∧ nameOk nm = true ∧ nm.length ≤ 1000 ∧ a ≤ c ∧ b ≤ e ∧ M = (l, .ins C []) :: M' ∧ Φ .non ((l, .ins C (roomF nm a b c e "barred" (.bl bd))) :: M')
def S_mark (C : Addr) : DS := fun ds M Φ => ∃ (l : Addr) (nm : Str) (a b c e bl : Int) (M' : Mem), ds = [.adr l, .str nm, tp a b, tp c e, .int bl] ∧ nameOk nm = true ∧ nm.length ≤ 1000 ∧ a ≤ c ∧ b ≤ e ∧ 0 ≤ bl ∧ M = (l, .ins C []) :: M' ∧ Φ .non ((l, .ins C (roomF nm a b c e "blur" (.int bl))) :: M')
def S_contR (K : PySem.W.Frag) (C : Addr) (last : Str) : DS := fun ds M Φ => ∃ (d : D) (nm : Str) (a b c e : Int) (v : D), ds = [.obj C (roomF nm a b c e last v), d] ∧ CellArg K d ∧ Φ (.bl (btw a b c e d)) M
abbrev s_need_corners : Stmt := top 19
theorem sc_need_corners : FnScope ["name", "low", "high"] ["name", "low", "high"] (defScope s_need_corners) := ⟨rfl, rfl, rfl, by decide +kernel, rfl, by decide +kernel, by decide +kernel⟩
theorem ok_need_corners {f : Addr} {fd : FuncData} (F : FunD K "need_corners" "need_corners" (defArgs s_need_corners) (defBody s_need_corners) (defScope s_need_corners) [] [] f fd) (hNm : HasFn P w K mg base 1 "is_name" S_is_name) (hC : HasFn P w K mg base 3 "is_cell" S_is_cell) : FnOk P w K mg base CX0 4 f fd ["name", "low", "high"] (spOf K S_need) := by
  refine fn_data (k := 3) F sc_need_corners (fun ds M Φ h => ?_) (fun cdv A outer s H E ds M Φ hr h => ?_)
  · obtain ⟨nm, a, b, c, e, rfl, hn, hnl, hac, hbe, q⟩ := h
    all_goals rfl
  · obtain ⟨nm, a, b, c, e, rfl, hn, hnl, hac, hbe, q⟩ := h
    refine ws_if ?_
    refine wt_not ?_
    refine wt_val ?_ (by intro _; rfl)
    refine wcf hNm (hr.mono (by decide)) ?_
    refine wa_cons ?_
    refine wv 0 rfl ?_
    refine wa_nil ?_
    refine ⟨_, _, rfl, rfl, (fun x hx => by cases hx; exact hnl), ?_⟩
    rw [show isName (.str nm) = true from hn]
    walk_at "truth"
    refine ⟨fun hb => ?_, fun hb => ?_⟩
    · walk_at "dead"
    · walk_at "tidy"
      refine ws_nil ?_
      refine ws_if ?_
      refine wt_not ?_
      refine wt_val ?_ (by intro _; rfl)
      refine wcf hC (hr.mono (by decide)) ?_
      refine wa_cons ?_
      refine wv 1 rfl ?_
      refine wa_nil ?_
      refine use_is_cell ?_
      walk_at "truth"
      refine ⟨fun hb => ?_, fun hb => ?_⟩
      · walk_at "dead"
      · walk_at "tidy"
        refine ws_nil ?_
        refine ws_if ?_
        refine wt_bool ?_
        refine ww_or ?_
        refine wt_not ?_
        refine wt_val ?_ (by intro _; rfl)
        refine wcf hC (hr.mono (by decide)) ?_
        refine wa_cons ?_
        refine wv 2 rfl ?_
        refine wa_nil ?_
        refine use_is_cell ?_
        walk_at "truth"
        refine ⟨fun hb => ?_, fun hb => ?_⟩
        · walk_at "dead"
        · walk_at "tidy"
          refine ww_or ?_
          refine wt_cmp ?_ (nomark _)
          refine we_ix ?_ (fun _ _ => rfl)
          refine wv 2 rfl ?_
          refine we_int ?_
          walk_at "ix"
          refine we_ix ?_ (fun _ _ => rfl)
          refine wv 1 rfl ?_
          refine we_int ?_
          walk_at "ix"
          walk_at "op"
          refine ⟨_, rfl, ?_⟩
          refine ⟨fun hb => ?_, fun hb => ?_⟩
          · walk_at "dead"
          · walk_at "tidy"
            refine ww_or1 ?_
            refine wt_cmp ?_ (nomark _)
            refine we_ix ?_ (fun _ _ => rfl)
            refine wv 2 rfl ?_
            refine we_int ?_
            walk_at "ix"
            refine we_ix ?_ (fun _ _ => rfl)
            refine wv 1 rfl ?_
            refine we_int ?_
            walk_at "ix"
            walk_at "op"
            refine ⟨_, rfl, ?_⟩
            refine ⟨fun hb => ?_, fun hb => ?_⟩
            · walk_at "dead"
            · walk_at "tidy"
              refine ws_nil ?_
              refine ws_nil ?_
              exact q
abbrev s_is_between : Stmt := top 20
theorem sc_is_between : FnScope ["cell", "low", "high"] ["cell", "low", "high"] (defScope s_is_between) := ⟨rfl, rfl, rfl, by decide +kernel, rfl, by decide +kernel, by decide +kernel⟩
theorem ok_is_between {f : Addr} {fd : FuncData} (F : FunD K "is_between" "is_between" (defArgs s_is_between) (defBody s_is_between) (defScope s_is_between) [] [] f fd) (hC : HasFn P w K mg base 3 "is_cell" S_is_cell) (hCO : HasFn P w K mg base 3 "is_cell" (S_is_cellO K)) : FnOk P w K mg base CX0 4 f fd ["cell", "low", "high"] (spOf K (S_between K)) := by
  refine fn_data (k := 3) F sc_is_between (fun ds M Φ h => ?_) (fun cdv A outer s H E ds M Φ hr h => ?_)
  · obtain ⟨d, a, b, c, e, rfl, hd, q⟩ := h
    all_goals rfl
  · obtain ⟨d, a, b, c, e, rfl, hd, q⟩ := h
    rcases hd with ⟨t, ht, hta, htl⟩ | ⟨C, fs, rfl, hI, hk⟩
    · rcases hai : areInts d 2 with _ | _
      · rw [btw_no hai] at q
        refine ws_ret ?_
        refine we_and ?_
        refine wcf hC (hr.mono (by decide)) ?_
        refine wa_cons ?_
        refine wv 0 rfl ?_
        refine wa_nil ?_
        refine ⟨d, t, rfl, ht, hta, htl, ?_⟩
        rw [hai]
        refine ⟨_, rfl, fun hb => ?_, fun hb => ?_⟩
        · walk_at "dead"
        · walk_at "tidy"
          exact q
      · obtain ⟨x, y, rfl⟩ := areInts2 hai
        refine ws_ret ?_
        refine we_and ?_
        refine wcf hC (hr.mono (by decide)) ?_
        refine wa_cons ?_
        refine wv 0 rfl ?_
        refine wa_nil ?_
        refine use_is_cell ?_
        refine ⟨_, rfl, fun hb => ?_, fun hb => ?_⟩
        · walk_at "tidy"
          refine we_and ?_
          refine we_chain ?_
          refine we_ix ?_ (fun _ _ => rfl)
          refine wv 1 rfl ?_
          refine we_int ?_
          walk_at "ix"
          refine we_ix ?_ (fun _ _ => rfl)
          refine wv 0 rfl ?_
          refine we_int ?_
          walk_at "ix"
          walk_at "op"
          refine ⟨_, rfl, fun hb => ?_, fun hb => ?_⟩
          · first
            | (walk_at "dead")
            | (
              walk_at "tidy"
              refine we_ix ?_ (fun _ _ => rfl)
              refine wv 2 rfl ?_
              refine we_int ?_
              walk_at "ix"
              walk_at "op"
              refine ⟨_, rfl, fun hb => ?_, fun hb => ?_⟩
              · first
                | (walk_at "dead")
                | (
                  walk_at "tidy"
                  refine we_one ?_
                  refine we_chain ?_
                  refine we_ix ?_ (fun _ _ => rfl)
                  refine wv 1 rfl ?_
                  refine we_int ?_
                  walk_at "ix"
                  refine we_ix ?_ (fun _ _ => rfl)
                  refine wv 0 rfl ?_
                  refine we_int ?_
                  walk_at "ix"
                  walk_at "op"
                  refine ⟨_, rfl, fun hb => ?_, fun hb => ?_⟩
                  · first
                    | (walk_at "dead")
                    | (
                      walk_at "tidy"
                      refine we_ix ?_ (fun _ _ => rfl)
                      refine wv 2 rfl ?_
                      refine we_int ?_
                      walk_at "ix"
                      walk_at "op"
                      rw [show btw a b c e (.tup [.int x, .int y]) = decide ((a ≤ x ∧ x ≤ c) ∧ b ≤ y ∧ y ≤ e) from rfl] at q
                      first
                      | (rw [decide_eq_false (by omega)] at q; exact q)
                      | (rw [show decide ((a ≤ x ∧ x ≤ c) ∧ b ≤ y ∧ y ≤ e) = decide (y ≤ e) from decide_eq_decide.mpr (by omega)] at q; exact q))
                  · first
                    | (walk_at "dead")
                    | (
                      walk_at "tidy"
                      rw [show btw a b c e (.tup [.int x, .int y]) = decide ((a ≤ x ∧ x ≤ c) ∧ b ≤ y ∧ y ≤ e) from rfl] at q
                      first
                      | (rw [decide_eq_false (by omega)] at q; exact q)
                      | (rw [show decide ((a ≤ x ∧ x ≤ c) ∧ b ≤ y ∧ y ≤ e) = decide (y ≤ e) from decide_eq_decide.mpr (by omega)] at q; exact q)))
              · first
                | (walk_at "dead")
                | (
                  walk_at "tidy"
                  rw [show btw a b c e (.tup [.int x, .int y]) = decide ((a ≤ x ∧ x ≤ c) ∧ b ≤ y ∧ y ≤ e) from rfl] at q
                  first
                  | (rw [decide_eq_false (by omega)] at q; exact q)
                  | (rw [show decide ((a ≤ x ∧ x ≤ c) ∧ b ≤ y ∧ y ≤ e) = decide (y ≤ e) from decide_eq_decide.mpr (by omega)] at q; exact q)))
          · first
            | (walk_at "dead")
            | (
              walk_at "tidy"
              refine ⟨_, rfl, fun hb => ?_, fun hb => ?_⟩
              · first
                | (walk_at "dead")
                | (
                  walk_at "tidy"
                  refine we_one ?_
                  refine we_chain ?_
                  refine we_ix ?_ (fun _ _ => rfl)
                  refine wv 1 rfl ?_
                  refine we_int ?_
                  walk_at "ix"
                  refine we_ix ?_ (fun _ _ => rfl)
                  refine wv 0 rfl ?_
                  refine we_int ?_
                  walk_at "ix"
                  walk_at "op"
                  refine ⟨_, rfl, fun hb => ?_, fun hb => ?_⟩
                  · first
                    | (walk_at "dead")
                    | (
                      walk_at "tidy"
                      refine we_ix ?_ (fun _ _ => rfl)
                      refine wv 2 rfl ?_
                      refine we_int ?_
                      walk_at "ix"
                      walk_at "op"
                      rw [show btw a b c e (.tup [.int x, .int y]) = decide ((a ≤ x ∧ x ≤ c) ∧ b ≤ y ∧ y ≤ e) from rfl] at q
                      first
                      | (rw [decide_eq_false (by omega)] at q; exact q)
                      | (rw [show decide ((a ≤ x ∧ x ≤ c) ∧ b ≤ y ∧ y ≤ e) = decide (y ≤ e) from decide_eq_decide.mpr (by omega)] at q; exact q))
                  · first
                    | (walk_at "dead")
                    | (
                      walk_at "tidy"
                      rw [show btw a b c e (.tup [.int x, .int y]) = decide ((a ≤ x ∧ x ≤ c) ∧ b ≤ y ∧ y ≤ e) from rfl] at q
                      first
                      | (rw [decide_eq_false (by omega)] at q; exact q)
                      | (rw [show decide ((a ≤ x ∧ x ≤ c) ∧ b ≤ y ∧ y ≤ e) = decide (y ≤ e) from decide_eq_decide.mpr (by omega)] at q; exact q)))
              · first
                | (walk_at "dead")
                | (
                  walk_at "tidy"
                  rw [show btw a b c e (.tup [.int x, .int y]) = decide ((a ≤ x ∧ x ≤ c) ∧ b ≤ y ∧ y ≤ e) from rfl] at q
                  first
                  | (rw [decide_eq_false (by omega)] at q; exact q)
                  | (rw [show decide ((a ≤ x ∧ x ≤ c) ∧ b ≤ y ∧ y ≤ e) = decide (y ≤ e) from decide_eq_decide.mpr (by omega)] at q; exact q)))
        · walk_at "dead"
    · rw [show btw a b c e (.obj C fs) = false from rfl] at q
      refine ws_ret ?_
      refine we_and ?_
      refine wcf hCO (hr.mono (by decide)) ?_
      refine wa_cons ?_
      refine wv 0 rfl ?_
      refine wa_nil ?_
      refine ⟨C, fs, rfl, hI, hk, ?_⟩
      refine ⟨_, rfl, fun hb => ?_, fun hb => ?_⟩
      · walk_at "dead"
      · walk_at "tidy"
        exact q
abbrev s_Room_init : Stmt := inClass (top 21) 0
theorem sc_Room_init : FnScope ["self", "name", "low", "high", "barred"] ["self", "name", "low", "high", "barred"] (defScope s_Room_init) := ⟨rfl, rfl, rfl, by decide +kernel, rfl, by decide +kernel, by decide +kernel⟩
theorem ok_Room_init {f : Addr} {fd : FuncData} (F : FunD K "__init__" "Room.__init__" (defArgs s_Room_init) (defBody s_Room_init) (defScope s_Room_init) [.bl false] [] f fd) (B : Bf mg) {C : Addr} (hNeed : HasFn P w K mg base 4 "need_corners" S_need) (hRm : RmC K C "barred") : FnOk P w K mg base CX0 6 f fd ["self", "name", "low", "high", "barred"] (spOf K (S_room C)) := by
  refine fn_data (k := 5) F sc_Room_init (fun ds M Φ h => ?_) (fun cdv A outer s H E ds M Φ hr h => ?_)
  · obtain ⟨l, nm, a, b, c, e, bd, M', rfl, hn, hnl, hac, hbe, rfl, q⟩ := h
    all_goals rfl
  · obtain ⟨l, nm, a, b, c, e, bd, M', rfl, hn, hnl, hac, hbe, rfl, q⟩ := h
    refine ws_expr ?_
    refine wcf hNeed (hr.mono (by decide)) ?_
    refine wa_cons ?_
    refine wv 1 rfl ?_
    refine wa_cons ?_
    refine wv 2 rfl ?_
    refine wa_cons ?_
    refine wv 3 rfl ?_
    refine wa_nil ?_
    refine ⟨nm, a, b, c, e, rfl, hn, hnl, hac, hbe, ?_⟩
    refine ws_if ?_
    refine wt_not ?_
    refine wt_val ?_ (by intro _; rfl)
    refine wcB B.isi boot_isinstance ?_
    refine wa_cons ?_
    refine wv 4 rfl ?_
    refine wa_cons ?_
    refine wbt B.bool boot_bool ?_
    refine wa_nil ?_
    refine cd_isi (t := "bool") (k := true) rfl rfl ?_
    walk_at "truth"
    refine ⟨fun hb => ?_, fun hb => ?_⟩
    · walk_at "dead"
    · walk_at "tidy"
      refine ws_nil ?_
      refine ws_cons (w1_fld ?_ rfl)
      refine wv 1 rfl ?_
      refine wv 0 rfl ?_
      refine ⟨0, l, C, _, rfl, rfl, hRm.cls, hRm.nn, (show 0 < 1000 by decide), ?_⟩
      refine ws_wk (Γ' := [some (.adr l), some (.str nm), some (tp a b), some (tp c e), some (.bl bd)]) (M' := (l, .ins C [("name", .str nm)]) :: M') (by repeat (first | exact wkE | refine wkS ?_ | refine wkN ?_)) (List.Sublist.refl _) ?_
      refine ws_cons (w1_fld ?_ rfl)
      refine wv 2 rfl ?_
      refine wv 0 rfl ?_
      refine ⟨0, l, C, _, rfl, rfl, hRm.cls, hRm.nl, (show 1 < 1000 by decide), ?_⟩
      refine ws_wk (Γ' := [some (.adr l), some (.str nm), some (tp a b), some (tp c e), some (.bl bd)]) (M' := (l, .ins C [("name", .str nm), ("low", tp a b)]) :: M') (by repeat (first | exact wkE | refine wkS ?_ | refine wkN ?_)) (List.Sublist.refl _) ?_
      refine ws_cons (w1_fld ?_ rfl)
      refine wv 3 rfl ?_
      refine wv 0 rfl ?_
      refine ⟨0, l, C, _, rfl, rfl, hRm.cls, hRm.nh, (show 2 < 1000 by decide), ?_⟩
      refine ws_wk (Γ' := [some (.adr l), some (.str nm), some (tp a b), some (tp c e), some (.bl bd)]) (M' := (l, .ins C [("name", .str nm), ("low", tp a b), ("high", tp c e)]) :: M') (by repeat (first | exact wkE | refine wkS ?_ | refine wkN ?_)) (List.Sublist.refl _) ?_
      refine ws_cons (w1_fld ?_ rfl)
      refine wv 4 rfl ?_
      refine wv 0 rfl ?_
      refine ⟨0, l, C, _, rfl, rfl, hRm.cls, hRm.nb, (show 3 < 1000 by decide), ?_⟩
      refine ws_wk (Γ' := [some (.adr l), some (.str nm), some (tp a b), some (tp c e), some (.bl bd)]) (M' := (l, .ins C [("name", .str nm), ("low", tp a b), ("high", tp c e), ("barred", .bl bd)]) :: M') (by repeat (first | exact wkE | refine wkS ?_ | refine wkN ?_)) (List.Sublist.refl _) ?_
      refine ws_nil ?_
      exact q
abbrev s_Room_contains : Stmt := inClass (top 21) 1
theorem sc_Room_contains : FnScope ["self", "cell"] ["self", "cell"] (defScope s_Room_contains) := ⟨rfl, rfl, rfl, by decide +kernel, rfl, by decide +kernel, by decide +kernel⟩
theorem ok_Room_contains {f : Addr} {fd : FuncData} (F : FunD K "__contains__" "Room.__contains__" (defArgs s_Room_contains) (defBody s_Room_contains) (defScope s_Room_contains) [] [] f fd) {C : Addr} (hRm : RmC K C "barred") (hBt : HasFn P w K mg base 4 "is_between" (S_between K)) : FnOk P w K mg base CX0 5 f fd ["self", "cell"] (spOf K (S_contR K C "barred")) := by
  refine fn_data (k := 4) F sc_Room_contains (fun ds M Φ h => ?_) (fun cdv A outer s H E ds M Φ hr h => ?_)
  · obtain ⟨d, nm, a, b, c, e, v, rfl, hd, q⟩ := h
    all_goals rfl
  · obtain ⟨d, nm, a, b, c, e, v, rfl, hd, q⟩ := h
    refine ws_ret ?_
    refine wcf hBt (hr.mono (by decide)) ?_
    refine wa_cons ?_
    refine wv 1 rfl ?_
    refine wa_cons ?_
    refine we_attr ?_ (by rfl)
    refine wv 0 rfl ?_
    refine at_fld (.inl rfl) (lk_there (by decide) lk_here) hRm.cls hRm.nl ?_
    refine wa_cons ?_
    refine we_attr ?_ (by rfl)
    refine wv 0 rfl ?_
    refine at_fld (.inl rfl) (lk_there (by decide) (lk_there (by decide) lk_here)) hRm.cls hRm.nh ?_
    refine wa_nil ?_
    refine ⟨d, a, b, c, e, rfl, hd, ?_⟩
    exact q
abbrev s_Mark_init : Stmt := inClass (top 22) 0
theorem sc_Mark_init : FnScope ["self", "name", "low", "high", "blur"] ["self", "name", "low", "high", "blur"] (defScope s_Mark_init) := ⟨rfl, rfl, rfl, by decide +kernel, rfl, by decide +kernel, by decide +kernel⟩
theorem ok_Mark_init {f : Addr} {fd : FuncData} (F : FunD K "__init__" "Mark.__init__" (defArgs s_Mark_init) (defBody s_Mark_init) (defScope s_Mark_init) [] [] f fd) (B : Bf mg) {C : Addr} (hNeed : HasFn P w K mg base 4 "need_corners" S_need) (hRm : RmC K C "blur") (hI : HasFn P w K mg base 1 "is_integer" S_is_integer) : FnOk P w K mg base CX0 6 f fd ["self", "name", "low", "high", "blur"] (spOf K (S_mark C)) := by
  refine fn_data (k := 5) F sc_Mark_init (fun ds M Φ h => ?_) (fun cdv A outer s H E ds M Φ hr h => ?_)
  · obtain ⟨l, nm, a, b, c, e, bl, M', rfl, hn, hnl, hac, hbe, hbl, rfl, q⟩ := h
    all_goals rfl
  · obtain ⟨l, nm, a, b, c, e, bl, M', rfl, hn, hnl, hac, hbe, hbl, rfl, q⟩ := h
    refine ws_expr ?_
    refine wcf hNeed (hr.mono (by decide)) ?_
    refine wa_cons ?_
    refine wv 1 rfl ?_
    refine wa_cons ?_
    refine wv 2 rfl ?_
    refine wa_cons ?_
    refine wv 3 rfl ?_
    refine wa_nil ?_
    refine ⟨nm, a, b, c, e, rfl, hn, hnl, hac, hbe, ?_⟩
    refine ws_if ?_
    refine wt_bool ?_
    refine ww_or ?_
    refine wt_not ?_
    refine wt_val ?_ (by intro _; rfl)
    refine wcf hI (hr.mono (by decide)) ?_
    refine wa_cons ?_
    refine wv 4 rfl ?_
    refine wa_nil ?_
    refine ⟨_, _, rfl, rfl, ?_⟩
    walk_at "truth"
    refine ⟨fun hb => ?_, fun hb => ?_⟩
    · walk_at "dead"
    · walk_at "tidy"
      refine ww_or1 ?_
      refine wt_cmp ?_ (nomark _)
      refine wv 4 rfl ?_
      refine we_int ?_
      walk_at "op"
      refine ⟨_, rfl, ?_⟩
      refine ⟨fun hb => ?_, fun hb => ?_⟩
      · walk_at "dead"
      · walk_at "tidy"
        refine ws_nil ?_
        refine ws_cons (w1_fld ?_ rfl)
        refine wv 1 rfl ?_
        refine wv 0 rfl ?_
        refine ⟨0, l, C, _, rfl, rfl, hRm.cls, hRm.nn, (show 0 < 1000 by decide), ?_⟩
        refine ws_wk (Γ' := [some (.adr l), some (.str nm), some (tp a b), some (tp c e), some (.int bl)]) (M' := (l, .ins C [("name", .str nm)]) :: M') (by repeat (first | exact wkE | refine wkS ?_ | refine wkN ?_)) (List.Sublist.refl _) ?_
        refine ws_cons (w1_fld ?_ rfl)
        refine wv 2 rfl ?_
        refine wv 0 rfl ?_
        refine ⟨0, l, C, _, rfl, rfl, hRm.cls, hRm.nl, (show 1 < 1000 by decide), ?_⟩
        refine ws_wk (Γ' := [some (.adr l), some (.str nm), some (tp a b), some (tp c e), some (.int bl)]) (M' := (l, .ins C [("name", .str nm), ("low", tp a b)]) :: M') (by repeat (first | exact wkE | refine wkS ?_ | refine wkN ?_)) (List.Sublist.refl _) ?_
        refine ws_cons (w1_fld ?_ rfl)
        refine wv 3 rfl ?_
        refine wv 0 rfl ?_
        refine ⟨0, l, C, _, rfl, rfl, hRm.cls, hRm.nh, (show 2 < 1000 by decide), ?_⟩
        refine ws_wk (Γ' := [some (.adr l), some (.str nm), some (tp a b), some (tp c e), some (.int bl)]) (M' := (l, .ins C [("name", .str nm), ("low", tp a b), ("high", tp c e)]) :: M') (by repeat (first | exact wkE | refine wkS ?_ | refine wkN ?_)) (List.Sublist.refl _) ?_
        refine ws_cons (w1_fld ?_ rfl)
        refine wv 4 rfl ?_
        refine wv 0 rfl ?_
        refine ⟨0, l, C, _, rfl, rfl, hRm.cls, hRm.nb, (show 3 < 1000 by decide), ?_⟩
        refine ws_wk (Γ' := [some (.adr l), some (.str nm), some (tp a b), some (tp c e), some (.int bl)]) (M' := (l, .ins C [("name", .str nm), ("low", tp a b), ("high", tp c e), ("blur", .int bl)]) :: M') (by repeat (first | exact wkE | refine wkS ?_ | refine wkN ?_)) (List.Sublist.refl _) ?_
        refine ws_nil ?_
        exact q
abbrev s_Mark_contains : Stmt := inClass (top 22) 1
theorem sc_Mark_contains : FnScope ["self", "cell"] ["self", "cell"] (defScope s_Mark_contains) := ⟨rfl, rfl, rfl, by decide +kernel, rfl, by decide +kernel, by decide +kernel⟩
theorem ok_Mark_contains {f : Addr} {fd : FuncData} (F : FunD K "__contains__" "Mark.__contains__" (defArgs s_Mark_contains) (defBody s_Mark_contains) (defScope s_Mark_contains) [] [] f fd) {C : Addr} (hRm : RmC K C "blur") (hBt : HasFn P w K mg base 4 "is_between" (S_between K)) : FnOk P w K mg base CX0 5 f fd ["self", "cell"] (spOf K (S_contR K C "blur")) := by
  refine fn_data (k := 4) F sc_Mark_contains (fun ds M Φ h => ?_) (fun cdv A outer s H E ds M Φ hr h => ?_)
  · obtain ⟨d, nm, a, b, c, e, v, rfl, hd, q⟩ := h
    all_goals rfl
  · obtain ⟨d, nm, a, b, c, e, v, rfl, hd, q⟩ := h
    refine ws_ret ?_
    refine wcf hBt (hr.mono (by decide)) ?_
    refine wa_cons ?_
    refine wv 1 rfl ?_
    refine wa_cons ?_
    refine we_attr ?_ (by rfl)
    refine wv 0 rfl ?_
    refine at_fld (.inl rfl) (lk_there (by decide) lk_here) hRm.cls hRm.nl ?_
    refine wa_cons ?_
    refine we_attr ?_ (by rfl)
    refine wv 0 rfl ?_
    refine at_fld (.inl rfl) (lk_there (by decide) (lk_there (by decide) lk_here)) hRm.cls hRm.nh ?_
    refine wa_nil ?_
    refine ⟨d, a, b, c, e, rfl, hd, ?_⟩
    exact q
end
end Sl57

set_option Elab.async false
set_option linter.all false
set_option maxRecDepth 100000
set_option maxHeartbeats 1000000

namespace Sl57
open PySem PySem.Spec PyProof.Rows L2 Dt
set_option hygiene false
local macro_rules | `(tactic| walk_at "op") => `(tactic| (first
  | refine od_add ?_ | refine od_sub ?_ | refine od_lt ?_ | refine od_le ?_ | refine od_gt ?_ | refine od_ge ?_ | refine od_eq ?_ | refine od_ne ?_ | refine od_is ?_ | refine od_isn ?_
  | refine od_eqS ?_ | refine od_neS ?_ | refine od_eqB ?_ | refine od_neB ?_))
local macro_rules | `(tactic| walk_at "dead") => `(tactic| (first
  | (cases hb; done)
  | (exact absurd (show false = true from hb) (by decide))
  | (exact absurd (show true = false from hb) (by decide))
  | (exact absurd hb (by decide))
  | (exfalso; simp only [decide_eq_true_eq, decide_eq_false_iff_not, Bool.not_eq_true', Bool.not_eq_false'] at hb; omega)))
local macro_rules | `(tactic| walk_at "tidy") => `(tactic| (try simp only [decide_eq_true_eq, decide_eq_false_iff_not, Bool.not_eq_true', Bool.not_eq_false'] at hb))
local macro_rules | `(tactic| walk_at "truth") => `(tactic| (first | refine tr_bl ?_ | refine tr_lst ?_ | refine tr_tup ?_ | refine tr_non ?_ | refine tr_int ?_))
local macro_rules | `(tactic| walk_at "ix") => `(tactic| (first
  | refine ix_tup (j := 0) rfl rfl ?_ | refine ix_tup (j := 1) rfl rfl ?_ | refine ix_tup (j := 2) rfl rfl ?_
  | refine ix_lst (j := 0) rfl rfl ?_ | refine ix_lst (j := 1) rfl rfl ?_ | refine ix_lst (j := 2) rfl rfl ?_
  | refine ix_own (k := 0) (j := 0) rfl rfl rfl ?_
  | refine ix_own (k := 0) (j := 1) rfl rfl rfl ?_
  | refine ix_own (k := 0) (j := 2) rfl rfl rfl ?_
  | refine ix_own (k := 1) (j := 0) rfl rfl rfl ?_
  | refine ix_own (k := 1) (j := 1) rfl rfl rfl ?_
  | refine ix_own (k := 1) (j := 2) rfl rfl rfl ?_
  | refine ix_own (k := 2) (j := 0) rfl rfl rfl ?_
  | refine ix_own (k := 2) (j := 1) rfl rfl rfl ?_
  | refine ix_own (k := 2) (j := 2) rfl rfl rfl ?_
  | refine ix_own (k := 3) (j := 0) rfl rfl rfl ?_
  | refine ix_own (k := 3) (j := 1) rfl rfl rfl ?_
  | refine ix_own (k := 3) (j := 2) rfl rfl rfl ?_
  | refine ix_own (k := 4) (j := 0) rfl rfl rfl ?_
  | refine ix_own (k := 4) (j := 1) rfl rfl rfl ?_
  | refine ix_own (k := 4) (j := 2) rfl rfl rfl ?_
  | refine ix_own (k := 5) (j := 0) rfl rfl rfl ?_
  | refine ix_own (k := 5) (j := 1) rfl rfl rfl ?_
  | refine ix_own (k := 5) (j := 2) rfl rfl rfl ?_
  | refine ix_own (k := 6) (j := 0) rfl rfl rfl ?_
  | refine ix_own (k := 6) (j := 1) rfl rfl rfl ?_
  | refine ix_own (k := 6) (j := 2) rfl rfl rfl ?_
  | refine ix_own (k := 7) (j := 0) rfl rfl rfl ?_
  | refine ix_own (k := 7) (j := 1) rfl rfl rfl ?_
  | refine ix_own (k := 7) (j := 2) rfl rfl rfl ?_
  | refine ix_own (k := 8) (j := 0) rfl rfl rfl ?_
  | refine ix_own (k := 8) (j := 1) rfl rfl rfl ?_
  | refine ix_own (k := 8) (j := 2) rfl rfl rfl ?_
  | refine ix_own (k := 9) (j := 0) rfl rfl rfl ?_
  | refine ix_own (k := 9) (j := 1) rfl rfl rfl ?_
  | refine ix_own (k := 9) (j := 2) rfl rfl rfl ?_
  | refine ix_own (k := 10) (j := 0) rfl rfl rfl ?_
  | refine ix_own (k := 10) (j := 1) rfl rfl rfl ?_
  | refine ix_own (k := 10) (j := 2) rfl rfl rfl ?_
  | refine ix_own (k := 11) (j := 0) rfl rfl rfl ?_
  | refine ix_own (k := 11) (j := 1) rfl rfl rfl ?_
  | refine ix_own (k := 11) (j := 2) rfl rfl rfl ?_
  | refine ix_own (k := 12) (j := 0) rfl rfl rfl ?_
  | refine ix_own (k := 12) (j := 1) rfl rfl rfl ?_
  | refine ix_own (k := 12) (j := 2) rfl rfl rfl ?_
  | refine ix_own (k := 13) (j := 0) rfl rfl rfl ?_
  | refine ix_own (k := 13) (j := 1) rfl rfl rfl ?_
  | refine ix_own (k := 13) (j := 2) rfl rfl rfl ?_))
local macro_rules | `(tactic| walk_at "seti") => `(tactic| (first
  | refine ⟨0, 0, _, _, _, rfl, rfl, rfl, rfl, of_decide_eq_true rfl, ?_⟩
  | refine ⟨0, 1, _, _, _, rfl, rfl, rfl, rfl, of_decide_eq_true rfl, ?_⟩
  | refine ⟨0, 2, _, _, _, rfl, rfl, rfl, rfl, of_decide_eq_true rfl, ?_⟩
  | refine ⟨1, 0, _, _, _, rfl, rfl, rfl, rfl, of_decide_eq_true rfl, ?_⟩
  | refine ⟨1, 1, _, _, _, rfl, rfl, rfl, rfl, of_decide_eq_true rfl, ?_⟩
  | refine ⟨1, 2, _, _, _, rfl, rfl, rfl, rfl, of_decide_eq_true rfl, ?_⟩
  | refine ⟨2, 0, _, _, _, rfl, rfl, rfl, rfl, of_decide_eq_true rfl, ?_⟩
  | refine ⟨2, 1, _, _, _, rfl, rfl, rfl, rfl, of_decide_eq_true rfl, ?_⟩
  | refine ⟨2, 2, _, _, _, rfl, rfl, rfl, rfl, of_decide_eq_true rfl, ?_⟩
  | refine ⟨3, 0, _, _, _, rfl, rfl, rfl, rfl, of_decide_eq_true rfl, ?_⟩
  | refine ⟨3, 1, _, _, _, rfl, rfl, rfl, rfl, of_decide_eq_true rfl, ?_⟩
  | refine ⟨3, 2, _, _, _, rfl, rfl, rfl, rfl, of_decide_eq_true rfl, ?_⟩
  | refine ⟨4, 0, _, _, _, rfl, rfl, rfl, rfl, of_decide_eq_true rfl, ?_⟩
  | refine ⟨4, 1, _, _, _, rfl, rfl, rfl, rfl, of_decide_eq_true rfl, ?_⟩
  | refine ⟨4, 2, _, _, _, rfl, rfl, rfl, rfl, of_decide_eq_true rfl, ?_⟩
  | refine ⟨5, 0, _, _, _, rfl, rfl, rfl, rfl, of_decide_eq_true rfl, ?_⟩
  | refine ⟨5, 1, _, _, _, rfl, rfl, rfl, rfl, of_decide_eq_true rfl, ?_⟩
  | refine ⟨5, 2, _, _, _, rfl, rfl, rfl, rfl, of_decide_eq_true rfl, ?_⟩
  | refine ⟨6, 0, _, _, _, rfl, rfl, rfl, rfl, of_decide_eq_true rfl, ?_⟩
  | refine ⟨6, 1, _, _, _, rfl, rfl, rfl, rfl, of_decide_eq_true rfl, ?_⟩
  | refine ⟨6, 2, _, _, _, rfl, rfl, rfl, rfl, of_decide_eq_true rfl, ?_⟩
  | refine ⟨7, 0, _, _, _, rfl, rfl, rfl, rfl, of_decide_eq_true rfl, ?_⟩
  | refine ⟨7, 1, _, _, _, rfl, rfl, rfl, rfl, of_decide_eq_true rfl, ?_⟩
  | refine ⟨7, 2, _, _, _, rfl, rfl, rfl, rfl, of_decide_eq_true rfl, ?_⟩
  | refine ⟨8, 0, _, _, _, rfl, rfl, rfl, rfl, of_decide_eq_true rfl, ?_⟩
  | refine ⟨8, 1, _, _, _, rfl, rfl, rfl, rfl, of_decide_eq_true rfl, ?_⟩
  | refine ⟨8, 2, _, _, _, rfl, rfl, rfl, rfl, of_decide_eq_true rfl, ?_⟩
  | refine ⟨9, 0, _, _, _, rfl, rfl, rfl, rfl, of_decide_eq_true rfl, ?_⟩
  | refine ⟨9, 1, _, _, _, rfl, rfl, rfl, rfl, of_decide_eq_true rfl, ?_⟩
  | refine ⟨9, 2, _, _, _, rfl, rfl, rfl, rfl, of_decide_eq_true rfl, ?_⟩
  | refine ⟨10, 0, _, _, _, rfl, rfl, rfl, rfl, of_decide_eq_true rfl, ?_⟩
  | refine ⟨10, 1, _, _, _, rfl, rfl, rfl, rfl, of_decide_eq_true rfl, ?_⟩
  | refine ⟨10, 2, _, _, _, rfl, rfl, rfl, rfl, of_decide_eq_true rfl, ?_⟩
  | refine ⟨11, 0, _, _, _, rfl, rfl, rfl, rfl, of_decide_eq_true rfl, ?_⟩
  | refine ⟨11, 1, _, _, _, rfl, rfl, rfl, rfl, of_decide_eq_true rfl, ?_⟩
  | refine ⟨11, 2, _, _, _, rfl, rfl, rfl, rfl, of_decide_eq_true rfl, ?_⟩
  | refine ⟨12, 0, _, _, _, rfl, rfl, rfl, rfl, of_decide_eq_true rfl, ?_⟩
  | refine ⟨12, 1, _, _, _, rfl, rfl, rfl, rfl, of_decide_eq_true rfl, ?_⟩
  | refine ⟨12, 2, _, _, _, rfl, rfl, rfl, rfl, of_decide_eq_true rfl, ?_⟩
  | refine ⟨13, 0, _, _, _, rfl, rfl, rfl, rfl, of_decide_eq_true rfl, ?_⟩
  | refine ⟨13, 1, _, _, _, rfl, rfl, rfl, rfl, of_decide_eq_true rfl, ?_⟩
  | refine ⟨13, 2, _, _, _, rfl, rfl, rfl, rfl, of_decide_eq_true rfl, ?_⟩))
local macro_rules | `(tactic| walk_at "lst") => `(tactic| (first
  | refine cd_list (.inr (.inr ⟨0, _, rfl, rfl⟩)) ?_
  | refine cd_list (.inr (.inr ⟨1, _, rfl, rfl⟩)) ?_
  | refine cd_list (.inr (.inr ⟨2, _, rfl, rfl⟩)) ?_
  | refine cd_list (.inr (.inr ⟨3, _, rfl, rfl⟩)) ?_
  | refine cd_list (.inr (.inr ⟨4, _, rfl, rfl⟩)) ?_
  | refine cd_list (.inr (.inr ⟨5, _, rfl, rfl⟩)) ?_
  | refine cd_list (.inr (.inr ⟨6, _, rfl, rfl⟩)) ?_
  | refine cd_list (.inr (.inr ⟨7, _, rfl, rfl⟩)) ?_
  | refine cd_list (.inr (.inr ⟨8, _, rfl, rfl⟩)) ?_
  | refine cd_list (.inr (.inr ⟨9, _, rfl, rfl⟩)) ?_
  | refine cd_list (.inr (.inr ⟨10, _, rfl, rfl⟩)) ?_
  | refine cd_list (.inr (.inr ⟨11, _, rfl, rfl⟩)) ?_
  | refine cd_list (.inr (.inr ⟨12, _, rfl, rfl⟩)) ?_
  | refine cd_list (.inr (.inr ⟨13, _, rfl, rfl⟩)) ?_))
local macro_rules | `(tactic| walk_at "isi") => `(tactic| (first | refine cd_isi (k := true) rfl (by decide +kernel) ?_ | refine cd_isi (k := false) rfl (by decide +kernel) ?_))
local macro_rules | `(tactic| walk_at "size") => `(tactic| (first
  | exact (show 0 ≤ sizeLine by decide) | exact (show 1 ≤ sizeLine by decide) | exact (show 2 ≤ sizeLine by decide) | exact (show 3 ≤ sizeLine by decide) | exact (show 4 ≤ sizeLine by decide) | exact (show 5 ≤ sizeLine by decide) | exact (show 6 ≤ sizeLine by decide) | exact (of_decide_eq_true rfl) | exact (Nat.le_of_ble_eq_true rfl)))

section
variable {P : Program} {w : World} {K : PySem.W.Frag} {mg : Str → Option Value} {base : Heap}
/-! ### lists of texts -/
theorem ok_ss : ∀ ps : List Str, okDs (ps.map D.str) = true
  | [] => rfl
  | a :: as => by
    show (okD (.str a) && okDs (as.map D.str)) = true
    rw [ok_ss as]
    rfl
theorem lay_ss : ∀ ps : List Str, (∀ z, z ∈ ps → PyData.canLay0 (.str z) = true) → PyData.canLayAll0 (pys (ps.map D.str)) = true
  | [], _ => rfl
  | a :: as, h => by
    show PyData.canLayAll0 (.str a :: pys (as.map D.str)) = true
    unfold PyData.canLayAll0
    rw [lay_ss as fun z hz => h z (List.mem_cons_of_mem _ hz), h a List.mem_cons_self]
    rfl
theorem deep_ss : ∀ ps : List Str, PyData.depthAll (pys (ps.map D.str)) ≤ 1
  | [] => Nat.zero_le _
  | a :: as => by
    show max (PyData.depth (.str a)) (PyData.depthAll (pys (as.map D.str))) ≤ 1
    exact Nat.max_le.mpr ⟨(show 0 ≤ 1 from Nat.zero_le 1), deep_ss as⟩
theorem shp_ss (ps : List Str) (h : ∀ z, z ∈ ps → PyData.canLay0 (.str z) = true) : shp (.lst (ps.map D.str)) = true := by
  unfold shp SeqAt.shaped
  rw [show okD (.lst (ps.map D.str)) = true from ok_ss ps, Bool.true_and, show PyData.canLay0 (py (.lst (ps.map D.str))) = true from lay_ss ps h, Bool.true_and]
  refine decide_eq_true ?_
  show PyData.depthAll (pys (ps.map D.str)) + 1 ≤ 64
  have := deep_ss ps
  omega
theorem od_neS0 {X : Cx} {M : Mem} {Φ : VP} {k : Nat} {l : Addr} {gs : List Str} (hok : ∀ z, z ∈ gs → PyData.canLay0 (.str z) = true) (hu : X.A.units + 64 < cLine) (hk : M[k]? = some (l, .lst (gs.map D.str))) (q : Φ (.bl (!gs.isEmpty)) M) : OpD X (compareOp .NotEq) (.adr l) (.lst []) M Φ := by
  refine od_neD (x' := .lst (gs.map D.str)) (y' := .lst []) hu (.inr ⟨k, l, _, rfl, hk, rfl⟩) (.inl rfl) (shp_ss gs hok) rfl ?_
  have e : PyData.eqv (py (.lst (gs.map D.str))) (py (.lst [])) = gs.isEmpty := by
    cases gs <;> rfl
  rw [e]
  exact q
theorem map_erase {α β : Type} (f : α → β) : ∀ (l : List α) (j : Nat), (l.map f).eraseIdx j = (l.eraseIdx j).map f
  | [], _ => rfl
  | _ :: _, 0 => rfl
  | a :: l, j + 1 => by
    show f a :: (l.map f).eraseIdx j = f a :: (l.eraseIdx j).map f
    rw [map_erase f l j]
theorem erase_perm {α : Type} : ∀ (l : List α) (j : Nat) (a : α), l[j]? = some a → (a :: l.eraseIdx j).Perm l
  | [], j, a, h => by simp at h
  | b :: l, 0, a, h => by
    simp only [List.getElem?_cons_zero, Option.some.injEq] at h
    subst h
    exact .refl _
  | b :: l, j + 1, a, h => by
    have ih := erase_perm l j a (by simpa using h)
    exact (List.Perm.swap b a _).trans (ih.cons b)
def S_mixed : DS := fun ds M Φ => ∃ (l l2 : Addr) (k : Nat) (zs : List Str), ds = [.adr l, .lst (zs.map .str)] ∧ DealAt M k l l2 ∧ zs.length ≤ 100 ∧ (∀ z, z ∈ zs → PyData.canLay0 (.str z) = true) ∧ ∀ (ys : List Str) gs m, ys.Perm zs → Good gs m → Φ (.lst (ys.map D.str)) (put2 M k l l2 gs m)
def nameL : List Str := ["goal", "lamp", "hall", "x", "east", "room", "mark", "yard", "slip", "zzzzzz", "a", "ends", "starts", "y"]
def S_names : DS := fun ds M Φ => ∃ (l l2 : Addr) (k : Nat) (n : Nat), ds = [.adr l, .int (n : Int)] ∧ DealAt M k l l2 ∧ n ≤ 14 ∧ ∀ (ys : List Str) gs m, ys.length = n → ys.Nodup → (∀ y, y ∈ ys → y ∈ nameL) → Good gs m → ∀ l', Φ (.adr l') ((l', .lst (ys.map D.str)) :: put2 M k l l2 gs m)
abbrev s_Lmixed : Stmt := top 36
theorem sc_Lmixed : FnScope ["_law_deal_here", "_law_some", "_law_left", "_law_found"] ["_law_deal_here", "_law_some"] (defScope s_Lmixed) := ⟨rfl, rfl, rfl, by decide +kernel, rfl, by decide +kernel, by decide +kernel⟩
theorem ok_Lmixed {f : Addr} {fd : FuncData} (F : FunD K "_law_mixed" "_law_mixed" (defArgs s_Lmixed) (defBody s_Lmixed) (defScope s_Lmixed) [] [] f fd) (B : Bf mg) (hDraw : HasFn P w K mg base 1 "_law_draw" S_draw) : FnOk P w K mg base CX0 2 f fd ["_law_deal_here", "_law_some"] (spOf K S_mixed) := by
  refine fn_data (k := 1) F sc_Lmixed (fun ds M Φ h => ?_) (fun cdv A outer s H E ds M Φ hr h => ?_)
  · obtain ⟨l, l2, k, zs, rfl, hD, hz, hok, q⟩ := h
    all_goals rfl
  · obtain ⟨l, l2, k, zs, rfl, hD, hz, hok, q⟩ := h
    have hkl := hD.len
    obtain ⟨gs0, m0, hg0, h0, h1⟩ := hD
    refine ws_par 2 3 sc_Lmixed.nd ?_
    refine wa_cons ?_
    refine wcT B.list boot_list ?_
    refine wa_cons ?_
    refine wv 1 rfl ?_
    refine wa_nil ?_
    refine cd_list (.inl rfl) (fun l_a => ?_)
    refine wa_cons ?_
    refine we_lstO ?_
    refine wa_nil ?_
    refine ⟨(by walk_at "size"), fun l_b => ?_⟩
    refine wa_nil ?_
    refine ⟨_, _, rfl, ?_⟩
    refine ws_mid (fun Γ2 M2 => Γ2 = [some (.adr l), some (.lst (zs.map .str)), some (.adr l_a), some (.adr l_b)] ∧ ∃ (bs : List Str) (gs : List Int) (m : Int), bs.Perm zs ∧ Good gs m ∧ M2 = (l_b, .lst (bs.map D.str)) :: (l_a, .lst []) :: put2 M k l l2 gs m) ?_ ?_
    · refine w1_while (fun n Γ2 M2 => ∃ (as bs : List Str) (gs : List Int) (m : Int), n = as.length ∧ (bs ++ as).Perm zs ∧ Good gs m ∧ Γ2 = [some (.adr l), some (.lst (zs.map .str)), some (.adr l_a), some (.adr l_b)] ∧ M2 = (l_b, .lst (bs.map D.str)) :: (l_a, .lst (as.map D.str)) :: put2 M k l l2 gs m) (by passes_own) zs.length ⟨zs, [], gs0, m0, rfl, .refl _, hg0, rfl, (by rw [put2_self h0 h1]; rfl)⟩ ?_
      rintro n Γ' M' ⟨as, bs, gs, m, rfl, hp, hg, rfl, rfl⟩
      have hpl := hp.length_eq
      rw [List.length_append] at hpl
      cases as with
      | nil =>
        refine wt_cmp ?_ (nomark _)
        refine wv 2 rfl ?_
        refine we_lst ?_
        refine wa_nil ?_
        refine ⟨(by walk_at "size"), ?_⟩
        refine od_neS0 (gs := []) (fun z h9 => by cases h9) hr.units (k := 1) rfl ?_
        refine ⟨_, rfl, ?_⟩
        refine ⟨fun hb => (by walk_at "dead"), fun hb => ⟨rfl, bs, gs, m, ?_, hg, rfl⟩⟩
        rw [List.append_nil] at hp
        exact hp
      | cons a0 r0 =>
        generalize hAs : a0 :: r0 = as at *
        have hne : as.isEmpty = false := by rw [← hAs]; rfl
        have hpos : 0 < as.length := by rw [← hAs]; exact Nat.succ_pos _
        refine wt_cmp ?_ (nomark _)
        refine wv 2 rfl ?_
        refine we_lst ?_
        refine wa_nil ?_
        refine ⟨(by walk_at "size"), ?_⟩
        refine od_neS0 (gs := as) (fun z h9 => hok z (hp.mem_iff.mp (List.mem_append_right _ h9))) hr.units (k := 1) rfl ?_
        rw [hne]
        refine ⟨_, rfl, ?_⟩
        refine ⟨fun hb => ?_, fun hb => (by walk_at "dead")⟩
        refine ws_expr ?_
        refine we_append ?_
        refine wv 3 rfl ?_
        refine ⟨_, 0, _, rfl, rfl, ?_⟩
        refine we_popAt ?_
        refine wv 2 rfl ?_
        refine ⟨_, 1, _, rfl, rfl, ?_⟩
        refine wcf hDraw (hr.mono (by decide)) ?_
        refine wa_cons ?_
        refine wv 0 rfl ?_
        refine wa_cons ?_
        refine wcB B.len boot_len ?_
        refine wa_cons ?_
        refine wv 2 rfl ?_
        refine wa_nil ?_
        refine cd_len_own (k := 1) rfl ?_
        refine wa_nil ?_
        refine ⟨l, l2, k + 2, _, rfl, deal_cons (deal_cons (deal_put hkl hg)), (by rw [List.length_map]; omega), (by rw [List.length_map]; omega), fun t1 gs1 m1 ht1 ht1x hg1 => ?_⟩
        rw [put2_cons, put2_cons, put2_put2]
        obtain ⟨jj, hj0⟩ : ∃ jj : Nat, t1 = (jj : Int) := ⟨t1.toNat, by omega⟩
        have hjl : jj < as.length := by simp only [List.length_map] at ht1x; omega
        refine ⟨1, jj, _, .str as[jj], (by rw [hj0]), rfl, (by rw [List.length_map]; omega), (by rw [List.getElem?_map, List.getElem?_eq_getElem hjl]; rfl), ?_⟩
        refine ⟨0, _, rfl, (by rw [List.length_map]; have h5 : sizeLine = 2 ^ 24 := rfl; omega), ?_⟩
        refine ws_wk (Γ' := [some (.adr l), some (.lst (zs.map .str)), some (.adr l_a), some (.adr l_b)]) (M' := (l_b, .lst (bs.map D.str ++ [.str as[jj]])) :: (l_a, .lst ((as.map D.str).eraseIdx jj)) :: put2 M k l l2 gs1 m1) (by repeat (first | exact wkE | refine wkS ?_ | refine wkN ?_)) (List.Sublist.refl _) ?_
        refine ws_nil ⟨(as.eraseIdx jj).length, (by rw [List.length_eraseIdx_of_lt hjl]; omega), as.eraseIdx jj, bs ++ [as[jj]], gs1, m1, rfl, ?_, hg1, rfl, (by rw [List.map_append, map_erase]; rfl)⟩
        rw [List.append_assoc]
        exact ((erase_perm as jj as[jj] (List.getElem?_eq_getElem hjl)).append_left bs).trans hp
    rintro Γ' M' ⟨rfl, bs, gs, m, hp, hg, rfl⟩
    refine ws_freeze (i := 3) rfl ?_
    refine ws_wk (Γ' := [some (.adr l), none, none, some (.lst (bs.map D.str))]) (M' := put2 M k l l2 gs m) (by repeat (first | exact wkE | refine wkS ?_ | refine wkN ?_)) (.cons _ (.refl _)) ?_
    refine ws_ret ?_
    refine wv 3 rfl ?_
    exact q bs gs m hp hg
abbrev s_Lnames : Stmt := top 37
theorem sc_Lnames : FnScope ["_law_deal_here", "_law_many", "_law_some"] ["_law_deal_here", "_law_many"] (defScope s_Lnames) := ⟨rfl, rfl, rfl, by decide +kernel, rfl, by decide +kernel, by decide +kernel⟩
theorem ok_Lnames {f : Addr} {fd : FuncData} (F : FunD K "_law_names" "_law_names" (defArgs s_Lnames) (defBody s_Lnames) (defScope s_Lnames) [] [] f fd) (B : Bf mg) (hMixed : HasFn P w K mg base 2 "_law_mixed" S_mixed) : FnOk P w K mg base CX0 3 f fd ["_law_deal_here", "_law_many"] (spOf K S_names) := by
  refine fn_data (k := 2) F sc_Lnames (fun ds M Φ h => ?_) (fun cdv A outer s H E ds M Φ hr h => ?_)
  · obtain ⟨l, l2, k, n, rfl, hD, hn, q⟩ := h
    all_goals rfl
  · obtain ⟨l, l2, k, n, rfl, hD, hn, q⟩ := h
    refine ws_cons ?_
    refine w1_set (i := 2) (x := "_law_some") ?p2 ?q2 ?r2 ?h2 ?c2 ?d2
    case p2 => exact sc_Lnames.nd
    case q2 => rfl
    case r2 => exact Or.inl rfl
    case c2 => rfl
    case d2 => exact .inl rfl
    refine we_lst ?_
    refine wa_cons ?_
    refine we_str ?_
    refine wa_cons ?_
    refine we_str ?_
    refine wa_cons ?_
    refine we_str ?_
    refine wa_cons ?_
    refine we_str ?_
    refine wa_cons ?_
    refine we_str ?_
    refine wa_cons ?_
    refine we_str ?_
    refine wa_cons ?_
    refine we_str ?_
    refine wa_cons ?_
    refine we_str ?_
    refine wa_cons ?_
    refine we_str ?_
    refine wa_cons ?_
    refine we_str ?_
    refine wa_cons ?_
    refine we_str ?_
    refine wa_cons ?_
    refine we_str ?_
    refine wa_cons ?_
    refine we_str ?_
    refine wa_cons ?_
    refine we_str ?_
    refine wa_nil ?_
    refine ⟨(by walk_at "size"), ?_⟩
    refine ws_wk (Γ' := [some (.adr l), some (.int (n : Int)), some (.lst (nameL.map D.str))]) (M' := M) (by repeat (first | exact wkE | refine wkS ?_ | refine wkN ?_)) (List.Sublist.refl _) ?_
    refine ws_ret ?_
    refine we_slO ?_
    refine wcf hMixed (hr.mono (by decide)) ?_
    refine wa_cons ?_
    refine wv 0 rfl ?_
    refine wa_cons ?_
    refine wv 2 rfl ?_
    refine wa_nil ?_
    refine ⟨l, l2, k, nameL, rfl, hD, by decide, by decide +kernel, fun ys gs m hp hg => ?_⟩
    refine wo_none (wo_some ?_)
    refine wv 1 rfl ?_
    refine ⟨_, rfl, ?_⟩
    refine ⟨_, .inl rfl, fun l9 => ?_⟩
    have hyl := hp.length_eq
    have hy14 : ys.length = 14 := hyl
    rw [cut_map, cut_to (by omega)]
    exact q (ys.take n) gs m (by rw [List.length_take]; omega) ((hp.nodup_iff.mpr (by decide +kernel)).sublist (List.take_sublist _ _)) (fun y hy => hp.mem_iff.mp (List.mem_of_mem_take hy)) hg l9
end
end Sl57

set_option Elab.async false
set_option linter.all false
set_option maxRecDepth 100000
set_option maxHeartbeats 1000000

namespace Sl57
open PySem PySem.Spec PyProof.Rows L2 Dt
set_option hygiene false
local macro_rules | `(tactic| walk_at "op") => `(tactic| (first
  | refine od_add ?_ | refine od_sub ?_ | refine od_lt ?_ | refine od_le ?_ | refine od_gt ?_ | refine od_ge ?_ | refine od_eq ?_ | refine od_ne ?_ | refine od_is ?_ | refine od_isn ?_
  | refine od_eqS ?_ | refine od_neS ?_ | refine od_eqB ?_ | refine od_neB ?_))
local macro_rules | `(tactic| walk_at "dead") => `(tactic| (first
  | (cases hb; done)
  | (exact absurd (show false = true from hb) (by decide))
  | (exact absurd (show true = false from hb) (by decide))
  | (exact absurd hb (by decide))
  | (exfalso; simp only [decide_eq_true_eq, decide_eq_false_iff_not, Bool.not_eq_true', Bool.not_eq_false'] at hb; omega)))
local macro_rules | `(tactic| walk_at "tidy") => `(tactic| (try simp only [decide_eq_true_eq, decide_eq_false_iff_not, Bool.not_eq_true', Bool.not_eq_false'] at hb))
local macro_rules | `(tactic| walk_at "truth") => `(tactic| (first | refine tr_bl ?_ | refine tr_lst ?_ | refine tr_tup ?_ | refine tr_non ?_ | refine tr_int ?_))
local macro_rules | `(tactic| walk_at "ix") => `(tactic| (first
  | refine ix_tup (j := 0) rfl rfl ?_ | refine ix_tup (j := 1) rfl rfl ?_ | refine ix_tup (j := 2) rfl rfl ?_
  | refine ix_lst (j := 0) rfl rfl ?_ | refine ix_lst (j := 1) rfl rfl ?_ | refine ix_lst (j := 2) rfl rfl ?_
  | refine ix_own (k := 0) (j := 0) rfl rfl rfl ?_
  | refine ix_own (k := 0) (j := 1) rfl rfl rfl ?_
  | refine ix_own (k := 0) (j := 2) rfl rfl rfl ?_
  | refine ix_own (k := 1) (j := 0) rfl rfl rfl ?_
  | refine ix_own (k := 1) (j := 1) rfl rfl rfl ?_
  | refine ix_own (k := 1) (j := 2) rfl rfl rfl ?_
  | refine ix_own (k := 2) (j := 0) rfl rfl rfl ?_
  | refine ix_own (k := 2) (j := 1) rfl rfl rfl ?_
  | refine ix_own (k := 2) (j := 2) rfl rfl rfl ?_
  | refine ix_own (k := 3) (j := 0) rfl rfl rfl ?_
  | refine ix_own (k := 3) (j := 1) rfl rfl rfl ?_
  | refine ix_own (k := 3) (j := 2) rfl rfl rfl ?_
  | refine ix_own (k := 4) (j := 0) rfl rfl rfl ?_
  | refine ix_own (k := 4) (j := 1) rfl rfl rfl ?_
  | refine ix_own (k := 4) (j := 2) rfl rfl rfl ?_
  | refine ix_own (k := 5) (j := 0) rfl rfl rfl ?_
  | refine ix_own (k := 5) (j := 1) rfl rfl rfl ?_
  | refine ix_own (k := 5) (j := 2) rfl rfl rfl ?_
  | refine ix_own (k := 6) (j := 0) rfl rfl rfl ?_
  | refine ix_own (k := 6) (j := 1) rfl rfl rfl ?_
  | refine ix_own (k := 6) (j := 2) rfl rfl rfl ?_
  | refine ix_own (k := 7) (j := 0) rfl rfl rfl ?_
  | refine ix_own (k := 7) (j := 1) rfl rfl rfl ?_
  | refine ix_own (k := 7) (j := 2) rfl rfl rfl ?_
  | refine ix_own (k := 8) (j := 0) rfl rfl rfl ?_
  | refine ix_own (k := 8) (j := 1) rfl rfl rfl ?_
  | refine ix_own (k := 8) (j := 2) rfl rfl rfl ?_
  | refine ix_own (k := 9) (j := 0) rfl rfl rfl ?_
  | refine ix_own (k := 9) (j := 1) rfl rfl rfl ?_
  | refine ix_own (k := 9) (j := 2) rfl rfl rfl ?_
  | refine ix_own (k := 10) (j := 0) rfl rfl rfl ?_
  | refine ix_own (k := 10) (j := 1) rfl rfl rfl ?_
  | refine ix_own (k := 10) (j := 2) rfl rfl rfl ?_
  | refine ix_own (k := 11) (j := 0) rfl rfl rfl ?_
  | refine ix_own (k := 11) (j := 1) rfl rfl rfl ?_
  | refine ix_own (k := 11) (j := 2) rfl rfl rfl ?_
  | refine ix_own (k := 12) (j := 0) rfl rfl rfl ?_
  | refine ix_own (k := 12) (j := 1) rfl rfl rfl ?_
  | refine ix_own (k := 12) (j := 2) rfl rfl rfl ?_
  | refine ix_own (k := 13) (j := 0) rfl rfl rfl ?_
  | refine ix_own (k := 13) (j := 1) rfl rfl rfl ?_
  | refine ix_own (k := 13) (j := 2) rfl rfl rfl ?_))
local macro_rules | `(tactic| walk_at "seti") => `(tactic| (first
  | refine ⟨0, 0, _, _, _, rfl, rfl, rfl, rfl, of_decide_eq_true rfl, ?_⟩
  | refine ⟨0, 1, _, _, _, rfl, rfl, rfl, rfl, of_decide_eq_true rfl, ?_⟩
  | refine ⟨0, 2, _, _, _, rfl, rfl, rfl, rfl, of_decide_eq_true rfl, ?_⟩
  | refine ⟨1, 0, _, _, _, rfl, rfl, rfl, rfl, of_decide_eq_true rfl, ?_⟩
  | refine ⟨1, 1, _, _, _, rfl, rfl, rfl, rfl, of_decide_eq_true rfl, ?_⟩
  | refine ⟨1, 2, _, _, _, rfl, rfl, rfl, rfl, of_decide_eq_true rfl, ?_⟩
  | refine ⟨2, 0, _, _, _, rfl, rfl, rfl, rfl, of_decide_eq_true rfl, ?_⟩
  | refine ⟨2, 1, _, _, _, rfl, rfl, rfl, rfl, of_decide_eq_true rfl, ?_⟩
  | refine ⟨2, 2, _, _, _, rfl, rfl, rfl, rfl, of_decide_eq_true rfl, ?_⟩
  | refine ⟨3, 0, _, _, _, rfl, rfl, rfl, rfl, of_decide_eq_true rfl, ?_⟩
  | refine ⟨3, 1, _, _, _, rfl, rfl, rfl, rfl, of_decide_eq_true rfl, ?_⟩
  | refine ⟨3, 2, _, _, _, rfl, rfl, rfl, rfl, of_decide_eq_true rfl, ?_⟩
  | refine ⟨4, 0, _, _, _, rfl, rfl, rfl, rfl, of_decide_eq_true rfl, ?_⟩
  | refine ⟨4, 1, _, _, _, rfl, rfl, rfl, rfl, of_decide_eq_true rfl, ?_⟩
  | refine ⟨4, 2, _, _, _, rfl, rfl, rfl, rfl, of_decide_eq_true rfl, ?_⟩
  | refine ⟨5, 0, _, _, _, rfl, rfl, rfl, rfl, of_decide_eq_true rfl, ?_⟩
  | refine ⟨5, 1, _, _, _, rfl, rfl, rfl, rfl, of_decide_eq_true rfl, ?_⟩
  | refine ⟨5, 2, _, _, _, rfl, rfl, rfl, rfl, of_decide_eq_true rfl, ?_⟩
  | refine ⟨6, 0, _, _, _, rfl, rfl, rfl, rfl, of_decide_eq_true rfl, ?_⟩
  | refine ⟨6, 1, _, _, _, rfl, rfl, rfl, rfl, of_decide_eq_true rfl, ?_⟩
  | refine ⟨6, 2, _, _, _, rfl, rfl, rfl, rfl, of_decide_eq_true rfl, ?_⟩
  | refine ⟨7, 0, _, _, _, rfl, rfl, rfl, rfl, of_decide_eq_true rfl, ?_⟩
  | refine ⟨7, 1, _, _, _, rfl, rfl, rfl, rfl, of_decide_eq_true rfl, ?_⟩
  | refine ⟨7, 2, _, _, _, rfl, rfl, rfl, rfl, of_decide_eq_true rfl, ?_⟩
  | refine ⟨8, 0, _, _, _, rfl, rfl, rfl, rfl, of_decide_eq_true rfl, ?_⟩
  | refine ⟨8, 1, _, _, _, rfl, rfl, rfl, rfl, of_decide_eq_true rfl, ?_⟩
  | refine ⟨8, 2, _, _, _, rfl, rfl, rfl, rfl, of_decide_eq_true rfl, ?_⟩
  | refine ⟨9, 0, _, _, _, rfl, rfl, rfl, rfl, of_decide_eq_true rfl, ?_⟩
  | refine ⟨9, 1, _, _, _, rfl, rfl, rfl, rfl, of_decide_eq_true rfl, ?_⟩
  | refine ⟨9, 2, _, _, _, rfl, rfl, rfl, rfl, of_decide_eq_true rfl, ?_⟩
  | refine ⟨10, 0, _, _, _, rfl, rfl, rfl, rfl, of_decide_eq_true rfl, ?_⟩
  | refine ⟨10, 1, _, _, _, rfl, rfl, rfl, rfl, of_decide_eq_true rfl, ?_⟩
  | refine ⟨10, 2, _, _, _, rfl, rfl, rfl, rfl, of_decide_eq_true rfl, ?_⟩
  | refine ⟨11, 0, _, _, _, rfl, rfl, rfl, rfl, of_decide_eq_true rfl, ?_⟩
  | refine ⟨11, 1, _, _, _, rfl, rfl, rfl, rfl, of_decide_eq_true rfl, ?_⟩
  | refine ⟨11, 2, _, _, _, rfl, rfl, rfl, rfl, of_decide_eq_true rfl, ?_⟩
  | refine ⟨12, 0, _, _, _, rfl, rfl, rfl, rfl, of_decide_eq_true rfl, ?_⟩
  | refine ⟨12, 1, _, _, _, rfl, rfl, rfl, rfl, of_decide_eq_true rfl, ?_⟩
  | refine ⟨12, 2, _, _, _, rfl, rfl, rfl, rfl, of_decide_eq_true rfl, ?_⟩
  | refine ⟨13, 0, _, _, _, rfl, rfl, rfl, rfl, of_decide_eq_true rfl, ?_⟩
  | refine ⟨13, 1, _, _, _, rfl, rfl, rfl, rfl, of_decide_eq_true rfl, ?_⟩
  | refine ⟨13, 2, _, _, _, rfl, rfl, rfl, rfl, of_decide_eq_true rfl, ?_⟩))
local macro_rules | `(tactic| walk_at "lst") => `(tactic| (first
  | refine cd_list (.inr (.inr ⟨0, _, rfl, rfl⟩)) ?_
  | refine cd_list (.inr (.inr ⟨1, _, rfl, rfl⟩)) ?_
  | refine cd_list (.inr (.inr ⟨2, _, rfl, rfl⟩)) ?_
  | refine cd_list (.inr (.inr ⟨3, _, rfl, rfl⟩)) ?_
  | refine cd_list (.inr (.inr ⟨4, _, rfl, rfl⟩)) ?_
  | refine cd_list (.inr (.inr ⟨5, _, rfl, rfl⟩)) ?_
  | refine cd_list (.inr (.inr ⟨6, _, rfl, rfl⟩)) ?_
  | refine cd_list (.inr (.inr ⟨7, _, rfl, rfl⟩)) ?_
  | refine cd_list (.inr (.inr ⟨8, _, rfl, rfl⟩)) ?_
  | refine cd_list (.inr (.inr ⟨9, _, rfl, rfl⟩)) ?_
  | refine cd_list (.inr (.inr ⟨10, _, rfl, rfl⟩)) ?_
  | refine cd_list (.inr (.inr ⟨11, _, rfl, rfl⟩)) ?_
  | refine cd_list (.inr (.inr ⟨12, _, rfl, rfl⟩)) ?_
  | refine cd_list (.inr (.inr ⟨13, _, rfl, rfl⟩)) ?_))
local macro_rules | `(tactic| walk_at "isi") => `(tactic| (first | refine cd_isi (k := true) rfl (by decide +kernel) ?_ | refine cd_isi (k := false) rfl (by decide +kernel) ?_))
local macro_rules | `(tactic| walk_at "size") => `(tactic| (first
  | exact (show 0 ≤ sizeLine by decide) | exact (show 1 ≤ sizeLine by decide) | exact (show 2 ≤ sizeLine by decide) | exact (show 3 ≤ sizeLine by decide) | exact (show 4 ≤ sizeLine by decide) | exact (show 5 ≤ sizeLine by decide) | exact (show 6 ≤ sizeLine by decide) | exact (of_decide_eq_true rfl) | exact (Nat.le_of_ble_eq_true rfl)))

section
variable {P : Program} {w : World} {K : PySem.W.Frag} {mg : Str → Option Value} {base : Heap}
/-! ### what sites are made of -/
def S_is_seq : DS := fun ds M Φ => ∃ d t, ds = [d] ∧ tyD d = some t ∧ Φ (.bl (t == "list" || t == "tuple")) M
def sizeOk : D → Bool
  | .tup [.int a, .int b] => decide (0 < a ∧ 0 < b)
  | _ => false
theorem size_no {d : D} (h : areInts d 2 = false) : sizeOk d = false := by
  cases d with
  | tup xs =>
    match xs, h with
    | [], _ => rfl
    | [_], _ => (rename_i x _; cases x <;> rfl)
    | x :: y :: z :: r, _ => (cases x <;> first | rfl | (cases y <;> rfl))
    | [x, y], h => (cases x <;> first | rfl | (cases y <;> first | rfl | (cases h)))
  | _ => rfl
def S_is_size : DS := fun ds M Φ => ∃ d t, ds = [d] ∧ tyD d = some t ∧ tyAll d = true ∧ (∀ xs, d = .tup xs → xs.length < sizeLine) ∧ Φ (.bl (sizeOk d)) M
def slipsOk (d : D) : Bool := areInts d 3 && (match d with
  | .tup xs => xs.all fun x => match x with
    | .int a => decide (0 ≤ a)
    | _ => false
  | _ => false)
def nnI : D → D
  | .int a => .bl (decide (0 ≤ a))
  | _ => .bl false
def S_are_slips : DS := fun ds M Φ => ∃ d t, ds = [d] ∧ tyD d = some t ∧ tyAll d = true ∧ (∀ xs, d = .tup xs → xs.length < sizeLine) ∧ Φ (.bl (slipsOk d)) M
theorem areInts3 {d : D} (h : areInts d 3 = true) : ∃ x y z : Int, d = .tup [.int x, .int y, .int z] := by
  cases d with
  | tup xs =>
    have h : (decide ((xs.length : Int) = 3) && xs.all isInt) = true := h
    obtain ⟨h1, h2⟩ := Bool.and_eq_true_iff.mp h
    have h1 := of_decide_eq_true h1
    match xs, h1, h2 with
    | [a, b, c], _, h2 =>
      cases a <;> cases b <;> cases c <;> first | exact ⟨_, _, _, rfl⟩ | (cases h2)
  | _ => cases h
theorem slips_is {x y z : Int} : slipsOk (.tup [.int x, .int y, .int z]) = (decide (0 ≤ x) && (decide (0 ≤ y) && (decide (0 ≤ z) && true))) := rfl
abbrev s_is_sequence : Stmt := top 12
theorem sc_is_sequence : FnScope ["value"] ["value"] (defScope s_is_sequence) := ⟨rfl, rfl, rfl, by decide +kernel, rfl, by decide +kernel, by decide +kernel⟩
theorem ok_is_sequence {f : Addr} {fd : FuncData} (F : FunD K "is_sequence" "is_sequence" (defArgs s_is_sequence) (defBody s_is_sequence) (defScope s_is_sequence) [] [] f fd) (B : Bf mg) : FnOk P w K mg base CX0 1 f fd ["value"] (spOf K S_is_seq) := by
  refine fn_data (k := 0) F sc_is_sequence (fun ds M Φ h => ?_) (fun cdv A outer s H E ds M Φ hr h => ?_)
  · obtain ⟨d, t, rfl, ht, q⟩ := h
    all_goals rfl
  · obtain ⟨d, t, rfl, ht, q⟩ := h
    cases d with
    | ty n => cases ht
    | obj C fs => cases ht
    | adr a => cases ht
    | dic ks => cases ht
    | _ =>
      refine ws_ret ?_
      refine wcB B.isi boot_isinstance ?_
      refine wa_cons ?_
      refine wv 0 rfl ?_
      refine wa_cons ?_
      refine we_tup ?_
      refine wa_cons ?_
      refine wbt B.list boot_list ?_
      refine wa_cons ?_
      refine wbt B.tuple boot_tuple ?_
      refine wa_nil ?_
      refine ⟨(by walk_at "size"), ?_⟩
      refine wa_nil ?_
      first
      | refine cd_isiTT (ka := true) (kb := false) rfl (by decide +kernel) (by decide +kernel) ?_
      | refine cd_isiTT (ka := false) (kb := true) rfl (by decide +kernel) (by decide +kernel) ?_
      | refine cd_isiTT (ka := false) (kb := false) rfl (by decide +kernel) (by decide +kernel) ?_
      cases ht
      exact q
abbrev s_is_size : Stmt := top 23
theorem sc_is_size : FnScope ["value"] ["value"] (defScope s_is_size) := ⟨rfl, rfl, rfl, by decide +kernel, rfl, by decide +kernel, by decide +kernel⟩
theorem ok_is_size {f : Addr} {fd : FuncData} (F : FunD K "is_size" "is_size" (defArgs s_is_size) (defBody s_is_size) (defScope s_is_size) [] [] f fd) (hAI : HasFn P w K mg base 2 "are_integers" S_are_integers) : FnOk P w K mg base CX0 3 f fd ["value"] (spOf K S_is_size) := by
  refine fn_data (k := 2) F sc_is_size (fun ds M Φ h => ?_) (fun cdv A outer s H E ds M Φ hr h => ?_)
  · obtain ⟨d, t, rfl, ht, hta, htl, q⟩ := h
    all_goals rfl
  · obtain ⟨d, t, rfl, ht, hta, htl, q⟩ := h
    rcases hai : areInts d 2 with _ | _
    · skip
      refine ws_ret ?_
      refine we_and ?_
      refine wcf hAI (hr.mono (by decide)) ?_
      refine wa_cons ?_
      refine wv 0 rfl ?_
      refine wa_cons ?_
      refine we_int ?_
      refine wa_nil ?_
      refine ⟨_, _, _, rfl, ht, hta, htl, ?_⟩
      rw [hai]
      refine ⟨_, rfl, fun hb => ?_, fun hb => ?_⟩
      · walk_at "dead"
      · walk_at "tidy"
        rw [size_no hai] at q
        exact q
    · obtain ⟨x, y, rfl⟩ := areInts2 hai
      refine ws_ret ?_
      refine we_and ?_
      refine wcf hAI (hr.mono (by decide)) ?_
      refine wa_cons ?_
      refine wv 0 rfl ?_
      refine wa_cons ?_
      refine we_int ?_
      refine wa_nil ?_
      refine ⟨_, _, _, rfl, ht, hta, htl, ?_⟩
      rw [hai]
      refine ⟨_, rfl, fun hb => ?_, fun hb => ?_⟩
      · walk_at "tidy"
        refine we_and ?_
        refine we_cmp ?_ (nomark _)
        refine we_ix ?_ (fun _ _ => rfl)
        refine wv 0 rfl ?_
        refine we_int ?_
        walk_at "ix"
        refine we_int ?_
        walk_at "op"
        refine ⟨_, rfl, fun hb => ?_, fun hb => ?_⟩
        · first
          | (walk_at "dead")
          | (
            walk_at "tidy"
            refine we_one ?_
            refine we_cmp ?_ (nomark _)
            refine we_ix ?_ (fun _ _ => rfl)
            refine wv 0 rfl ?_
            refine we_int ?_
            walk_at "ix"
            refine we_int ?_
            walk_at "op"
            first
            | (rw [show sizeOk (.tup [.int x, .int y]) = false from decide_eq_false (by omega)] at q; exact q)
            | (rw [show sizeOk (.tup [.int x, .int y]) = decide (0 < y) from decide_eq_decide.mpr (by omega)] at q; exact q))
        · first
          | (walk_at "dead")
          | (
            walk_at "tidy"
            first
            | (rw [show sizeOk (.tup [.int x, .int y]) = false from decide_eq_false (by omega)] at q; exact q)
            | (rw [show sizeOk (.tup [.int x, .int y]) = decide (0 < y) from decide_eq_decide.mpr (by omega)] at q; exact q))
      · walk_at "dead"
abbrev s_are_slips : Stmt := top 24
theorem sc_are_slips : FnScope ["value", "slip"] ["value"] (defScope s_are_slips) := ⟨rfl, rfl, rfl, by decide +kernel, rfl, by decide +kernel, by decide +kernel⟩
theorem ok_are_slips {f : Addr} {fd : FuncData} (F : FunD K "are_slips" "are_slips" (defArgs s_are_slips) (defBody s_are_slips) (defScope s_are_slips) [] [] f fd) (B : Bf mg) (hAI : HasFn P w K mg base 2 "are_integers" S_are_integers) : FnOk P w K mg base CX0 3 f fd ["value"] (spOf K S_are_slips) := by
  refine fn_data (k := 2) F sc_are_slips (fun ds M Φ h => ?_) (fun cdv A outer s H E ds M Φ hr h => ?_)
  · obtain ⟨d, t, rfl, ht, hta, htl, q⟩ := h
    all_goals rfl
  · obtain ⟨d, t, rfl, ht, hta, htl, q⟩ := h
    rcases hai : areInts d 3 with _ | _
    · skip
      refine ws_ret ?_
      refine we_and ?_
      refine wcf hAI (hr.mono (by decide)) ?_
      refine wa_cons ?_
      refine wv 0 rfl ?_
      refine wa_cons ?_
      refine we_int ?_
      refine wa_nil ?_
      refine ⟨_, _, _, rfl, ht, hta, htl, ?_⟩
      rw [hai]
      refine ⟨_, rfl, fun hb => ?_, fun hb => ?_⟩
      · walk_at "dead"
      · walk_at "tidy"
        rw [show slipsOk d = false by unfold slipsOk; rw [hai]; rfl] at q
        exact q
    · obtain ⟨x, y, z, rfl⟩ := areInts3 hai
      refine ws_ret ?_
      refine we_and ?_
      refine wcf hAI (hr.mono (by decide)) ?_
      refine wa_cons ?_
      refine wv 0 rfl ?_
      refine wa_cons ?_
      refine we_int ?_
      refine wa_nil ?_
      refine ⟨_, _, _, rfl, ht, hta, htl, ?_⟩
      rw [hai]
      refine ⟨_, rfl, fun hb => ?_, fun hb => ?_⟩
      · walk_at "tidy"
        refine we_one ?_
        refine wcB B.all bt_all ?_
        refine wa_cons ?_
        refine lcMapT (own := [("slip", 1)]) (j := 1) sc_are_slips.nd ?_ (blkOk_by (N := ["value", "slip"]) (sc := defScope s_are_slips) (by decide +kernel)) (fun _ _ _ _ _ => pg_name (i := 1) sc_are_slips.nd rfl (Or.inl rfl))
        refine wv 0 rfl ?_
        refine ⟨_, nnI, rfl, of_decide_eq_true rfl, fun i yy hy l out s H C cl fp => ?_, ?_⟩
        · obtain ⟨c9, rfl⟩ : ∃ c9 : Int, yy = .int c9 := by
            have hm := List.mem_of_getElem? hy
            simp only [List.mem_cons, List.not_mem_nil, or_false] at hm
            rcases hm with rfl | rfl | rfl <;> exact ⟨_, rfl⟩
          refine we_cmp ?_ (nomark _)
          refine wv 1 rfl ?_
          refine we_int ?_
          walk_at "op"
          exact ⟨rfl, rfl⟩
        rw [show [D.int x, .int y, .int z].map nnI = [decide (0 ≤ x), decide (0 ≤ y), decide (0 ≤ z)].map D.bl from rfl]
        refine wa_nil ?_
        refine cd_all rfl ?_
        rw [slips_is] at q
        exact q
      · walk_at "dead"
end
end Sl57

set_option Elab.async false
set_option linter.all false
set_option maxRecDepth 100000
set_option maxHeartbeats 1000000

namespace Sl57
open PySem PySem.Spec PyProof.Rows L2 Dt
set_option hygiene false
local macro_rules | `(tactic| walk_at "op") => `(tactic| (first
  | refine od_add ?_ | refine od_sub ?_ | refine od_lt ?_ | refine od_le ?_ | refine od_gt ?_ | refine od_ge ?_ | refine od_eq ?_ | refine od_ne ?_ | refine od_is ?_ | refine od_isn ?_
  | refine od_eqS ?_ | refine od_neS ?_ | refine od_eqB ?_ | refine od_neB ?_))
local macro_rules | `(tactic| walk_at "dead") => `(tactic| (first
  | (cases hb; done)
  | (exact absurd (show false = true from hb) (by decide))
  | (exact absurd (show true = false from hb) (by decide))
  | (exact absurd hb (by decide))
  | (exfalso; simp only [decide_eq_true_eq, decide_eq_false_iff_not, Bool.not_eq_true', Bool.not_eq_false'] at hb; omega)))
local macro_rules | `(tactic| walk_at "tidy") => `(tactic| (try simp only [decide_eq_true_eq, decide_eq_false_iff_not, Bool.not_eq_true', Bool.not_eq_false'] at hb))
local macro_rules | `(tactic| walk_at "truth") => `(tactic| (first | refine tr_bl ?_ | refine tr_lst ?_ | refine tr_tup ?_ | refine tr_non ?_ | refine tr_int ?_))
local macro_rules | `(tactic| walk_at "ix") => `(tactic| (first
  | refine ix_tup (j := 0) rfl rfl ?_ | refine ix_tup (j := 1) rfl rfl ?_ | refine ix_tup (j := 2) rfl rfl ?_
  | refine ix_lst (j := 0) rfl rfl ?_ | refine ix_lst (j := 1) rfl rfl ?_ | refine ix_lst (j := 2) rfl rfl ?_
  | refine ix_own (k := 0) (j := 0) rfl rfl rfl ?_
  | refine ix_own (k := 0) (j := 1) rfl rfl rfl ?_
  | refine ix_own (k := 0) (j := 2) rfl rfl rfl ?_
  | refine ix_own (k := 1) (j := 0) rfl rfl rfl ?_
  | refine ix_own (k := 1) (j := 1) rfl rfl rfl ?_
  | refine ix_own (k := 1) (j := 2) rfl rfl rfl ?_
  | refine ix_own (k := 2) (j := 0) rfl rfl rfl ?_
  | refine ix_own (k := 2) (j := 1) rfl rfl rfl ?_
  | refine ix_own (k := 2) (j := 2) rfl rfl rfl ?_
  | refine ix_own (k := 3) (j := 0) rfl rfl rfl ?_
  | refine ix_own (k := 3) (j := 1) rfl rfl rfl ?_
  | refine ix_own (k := 3) (j := 2) rfl rfl rfl ?_
  | refine ix_own (k := 4) (j := 0) rfl rfl rfl ?_
  | refine ix_own (k := 4) (j := 1) rfl rfl rfl ?_
  | refine ix_own (k := 4) (j := 2) rfl rfl rfl ?_
  | refine ix_own (k := 5) (j := 0) rfl rfl rfl ?_
  | refine ix_own (k := 5) (j := 1) rfl rfl rfl ?_
  | refine ix_own (k := 5) (j := 2) rfl rfl rfl ?_
  | refine ix_own (k := 6) (j := 0) rfl rfl rfl ?_
  | refine ix_own (k := 6) (j := 1) rfl rfl rfl ?_
  | refine ix_own (k := 6) (j := 2) rfl rfl rfl ?_
  | refine ix_own (k := 7) (j := 0) rfl rfl rfl ?_
  | refine ix_own (k := 7) (j := 1) rfl rfl rfl ?_
  | refine ix_own (k := 7) (j := 2) rfl rfl rfl ?_
  | refine ix_own (k := 8) (j := 0) rfl rfl rfl ?_
  | refine ix_own (k := 8) (j := 1) rfl rfl rfl ?_
  | refine ix_own (k := 8) (j := 2) rfl rfl rfl ?_
  | refine ix_own (k := 9) (j := 0) rfl rfl rfl ?_
  | refine ix_own (k := 9) (j := 1) rfl rfl rfl ?_
  | refine ix_own (k := 9) (j := 2) rfl rfl rfl ?_
  | refine ix_own (k := 10) (j := 0) rfl rfl rfl ?_
  | refine ix_own (k := 10) (j := 1) rfl rfl rfl ?_
  | refine ix_own (k := 10) (j := 2) rfl rfl rfl ?_
  | refine ix_own (k := 11) (j := 0) rfl rfl rfl ?_
  | refine ix_own (k := 11) (j := 1) rfl rfl rfl ?_
  | refine ix_own (k := 11) (j := 2) rfl rfl rfl ?_
  | refine ix_own (k := 12) (j := 0) rfl rfl rfl ?_
  | refine ix_own (k := 12) (j := 1) rfl rfl rfl ?_
  | refine ix_own (k := 12) (j := 2) rfl rfl rfl ?_
  | refine ix_own (k := 13) (j := 0) rfl rfl rfl ?_
  | refine ix_own (k := 13) (j := 1) rfl rfl rfl ?_
  | refine ix_own (k := 13) (j := 2) rfl rfl rfl ?_))
local macro_rules | `(tactic| walk_at "seti") => `(tactic| (first
  | refine ⟨0, 0, _, _, _, rfl, rfl, rfl, rfl, of_decide_eq_true rfl, ?_⟩
  | refine ⟨0, 1, _, _, _, rfl, rfl, rfl, rfl, of_decide_eq_true rfl, ?_⟩
  | refine ⟨0, 2, _, _, _, rfl, rfl, rfl, rfl, of_decide_eq_true rfl, ?_⟩
  | refine ⟨1, 0, _, _, _, rfl, rfl, rfl, rfl, of_decide_eq_true rfl, ?_⟩
  | refine ⟨1, 1, _, _, _, rfl, rfl, rfl, rfl, of_decide_eq_true rfl, ?_⟩
  | refine ⟨1, 2, _, _, _, rfl, rfl, rfl, rfl, of_decide_eq_true rfl, ?_⟩
  | refine ⟨2, 0, _, _, _, rfl, rfl, rfl, rfl, of_decide_eq_true rfl, ?_⟩
  | refine ⟨2, 1, _, _, _, rfl, rfl, rfl, rfl, of_decide_eq_true rfl, ?_⟩
  | refine ⟨2, 2, _, _, _, rfl, rfl, rfl, rfl, of_decide_eq_true rfl, ?_⟩
  | refine ⟨3, 0, _, _, _, rfl, rfl, rfl, rfl, of_decide_eq_true rfl, ?_⟩
  | refine ⟨3, 1, _, _, _, rfl, rfl, rfl, rfl, of_decide_eq_true rfl, ?_⟩
  | refine ⟨3, 2, _, _, _, rfl, rfl, rfl, rfl, of_decide_eq_true rfl, ?_⟩
  | refine ⟨4, 0, _, _, _, rfl, rfl, rfl, rfl, of_decide_eq_true rfl, ?_⟩
  | refine ⟨4, 1, _, _, _, rfl, rfl, rfl, rfl, of_decide_eq_true rfl, ?_⟩
  | refine ⟨4, 2, _, _, _, rfl, rfl, rfl, rfl, of_decide_eq_true rfl, ?_⟩
  | refine ⟨5, 0, _, _, _, rfl, rfl, rfl, rfl, of_decide_eq_true rfl, ?_⟩
  | refine ⟨5, 1, _, _, _, rfl, rfl, rfl, rfl, of_decide_eq_true rfl, ?_⟩
  | refine ⟨5, 2, _, _, _, rfl, rfl, rfl, rfl, of_decide_eq_true rfl, ?_⟩
  | refine ⟨6, 0, _, _, _, rfl, rfl, rfl, rfl, of_decide_eq_true rfl, ?_⟩
  | refine ⟨6, 1, _, _, _, rfl, rfl, rfl, rfl, of_decide_eq_true rfl, ?_⟩
  | refine ⟨6, 2, _, _, _, rfl, rfl, rfl, rfl, of_decide_eq_true rfl, ?_⟩
  | refine ⟨7, 0, _, _, _, rfl, rfl, rfl, rfl, of_decide_eq_true rfl, ?_⟩
  | refine ⟨7, 1, _, _, _, rfl, rfl, rfl, rfl, of_decide_eq_true rfl, ?_⟩
  | refine ⟨7, 2, _, _, _, rfl, rfl, rfl, rfl, of_decide_eq_true rfl, ?_⟩
  | refine ⟨8, 0, _, _, _, rfl, rfl, rfl, rfl, of_decide_eq_true rfl, ?_⟩
  | refine ⟨8, 1, _, _, _, rfl, rfl, rfl, rfl, of_decide_eq_true rfl, ?_⟩
  | refine ⟨8, 2, _, _, _, rfl, rfl, rfl, rfl, of_decide_eq_true rfl, ?_⟩
  | refine ⟨9, 0, _, _, _, rfl, rfl, rfl, rfl, of_decide_eq_true rfl, ?_⟩
  | refine ⟨9, 1, _, _, _, rfl, rfl, rfl, rfl, of_decide_eq_true rfl, ?_⟩
  | refine ⟨9, 2, _, _, _, rfl, rfl, rfl, rfl, of_decide_eq_true rfl, ?_⟩
  | refine ⟨10, 0, _, _, _, rfl, rfl, rfl, rfl, of_decide_eq_true rfl, ?_⟩
  | refine ⟨10, 1, _, _, _, rfl, rfl, rfl, rfl, of_decide_eq_true rfl, ?_⟩
  | refine ⟨10, 2, _, _, _, rfl, rfl, rfl, rfl, of_decide_eq_true rfl, ?_⟩
  | refine ⟨11, 0, _, _, _, rfl, rfl, rfl, rfl, of_decide_eq_true rfl, ?_⟩
  | refine ⟨11, 1, _, _, _, rfl, rfl, rfl, rfl, of_decide_eq_true rfl, ?_⟩
  | refine ⟨11, 2, _, _, _, rfl, rfl, rfl, rfl, of_decide_eq_true rfl, ?_⟩
  | refine ⟨12, 0, _, _, _, rfl, rfl, rfl, rfl, of_decide_eq_true rfl, ?_⟩
  | refine ⟨12, 1, _, _, _, rfl, rfl, rfl, rfl, of_decide_eq_true rfl, ?_⟩
  | refine ⟨12, 2, _, _, _, rfl, rfl, rfl, rfl, of_decide_eq_true rfl, ?_⟩
  | refine ⟨13, 0, _, _, _, rfl, rfl, rfl, rfl, of_decide_eq_true rfl, ?_⟩
  | refine ⟨13, 1, _, _, _, rfl, rfl, rfl, rfl, of_decide_eq_true rfl, ?_⟩
  | refine ⟨13, 2, _, _, _, rfl, rfl, rfl, rfl, of_decide_eq_true rfl, ?_⟩))
local macro_rules | `(tactic| walk_at "lst") => `(tactic| (first
  | refine cd_list (.inr (.inr ⟨0, _, rfl, rfl⟩)) ?_
  | refine cd_list (.inr (.inr ⟨1, _, rfl, rfl⟩)) ?_
  | refine cd_list (.inr (.inr ⟨2, _, rfl, rfl⟩)) ?_
  | refine cd_list (.inr (.inr ⟨3, _, rfl, rfl⟩)) ?_
  | refine cd_list (.inr (.inr ⟨4, _, rfl, rfl⟩)) ?_
  | refine cd_list (.inr (.inr ⟨5, _, rfl, rfl⟩)) ?_
  | refine cd_list (.inr (.inr ⟨6, _, rfl, rfl⟩)) ?_
  | refine cd_list (.inr (.inr ⟨7, _, rfl, rfl⟩)) ?_
  | refine cd_list (.inr (.inr ⟨8, _, rfl, rfl⟩)) ?_
  | refine cd_list (.inr (.inr ⟨9, _, rfl, rfl⟩)) ?_
  | refine cd_list (.inr (.inr ⟨10, _, rfl, rfl⟩)) ?_
  | refine cd_list (.inr (.inr ⟨11, _, rfl, rfl⟩)) ?_
  | refine cd_list (.inr (.inr ⟨12, _, rfl, rfl⟩)) ?_
  | refine cd_list (.inr (.inr ⟨13, _, rfl, rfl⟩)) ?_))
local macro_rules | `(tactic| walk_at "isi") => `(tactic| (first | refine cd_isi (k := true) rfl (by decide +kernel) ?_ | refine cd_isi (k := false) rfl (by decide +kernel) ?_))
local macro_rules | `(tactic| walk_at "size") => `(tactic| (first
  | exact (show 0 ≤ sizeLine by decide) | exact (show 1 ≤ sizeLine by decide) | exact (show 2 ≤ sizeLine by decide) | exact (show 3 ≤ sizeLine by decide) | exact (show 4 ≤ sizeLine by decide) | exact (show 5 ≤ sizeLine by decide) | exact (show 6 ≤ sizeLine by decide) | exact (of_decide_eq_true rfl) | exact (Nat.le_of_ble_eq_true rfl)))

section
variable {P : Program} {w : World} {K : PySem.W.Frag} {mg : Str → Option Value} {base : Heap}
/-! ### rooms, marks, names -/
def RoomQ (K : PySem.W.Frag) (CR : Addr) (y : D) (b : Bool) : Prop := (∃ t, tyD y = some t ∧ PySem.W.kitOne K (.type t) (.ref CR) = some b) ∨ ∃ C fs, y = .obj C fs ∧ IsF K C ∧ PySem.W.kitOne K (.ref C) (.ref CR) = some b
def S_areN : DS := fun ds M Φ => ∃ d t, ds = [d] ∧ tyD d = some t ∧ (t == "list" || t == "tuple") = false ∧ Φ (.bl false) M
def S_areS (K : PySem.W.Frag) (CR : Addr) (con : List D → D) : DS := fun ds M Φ => ∃ (xs : List D) (r : D → Bool), ds = [con xs] ∧ xs.length < sizeLine ∧ (∀ y, y ∈ xs → RoomQ K CR y (r y)) ∧ Φ (.bl ((xs.map r).all id)) M
def S_twins (K : PySem.W.Frag) (con : List D → D) : DS := fun ds M Φ => ∃ (xs : List D) (nm : D → Str), ds = [con xs] ∧ xs.length < 4000 ∧ (∀ y, y ∈ xs → ∃ C fs, y = .obj C fs ∧ Cls K C ∧ NoAttr K C "name" ∧ fs.lookup ("name" : Str) = some (D.str (nm y))) ∧ Φ (.bl (decide ((((xs.map nm).foldl addS []).length : Int) < (xs.length : Int)))) M
abbrev s_are_rooms : Stmt := top 25
theorem sc_are_rooms : FnScope ["value", "one"] ["value"] (defScope s_are_rooms) := ⟨rfl, rfl, rfl, by decide +kernel, rfl, by decide +kernel, by decide +kernel⟩
theorem ok_are_roomsL {f : Addr} {fd : FuncData} (F : FunD K "are_rooms" "are_rooms" (defArgs s_are_rooms) (defBody s_are_rooms) (defScope s_are_rooms) [] [] f fd) (B : Bf mg) {CR : Addr} (hmR : mg "Room" = some (.ref CR)) (hSeq : HasFn P w K mg base 1 "is_sequence" S_is_seq) : FnOk P w K mg base CX0 2 f fd ["value"] (spOf K (S_areS K CR .lst)) := by
  refine fn_data (k := 1) F sc_are_rooms (fun ds M Φ h => ?_) (fun cdv A outer s H E ds M Φ hr h => ?_)
  · obtain ⟨xs, r, rfl, hl, hq9, q⟩ := h
    all_goals rfl
  · obtain ⟨xs, r, rfl, hl, hq9, q⟩ := h
    refine ws_ret ?_
    refine we_and ?_
    refine wcf hSeq (hr.mono (by decide)) ?_
    refine wa_cons ?_
    refine wv 0 rfl ?_
    refine wa_nil ?_
    refine ⟨_, _, rfl, rfl, ?_⟩
    rw [show (("list" : String) == "list" || ("list" : String) == "tuple") = true by decide]
    refine ⟨_, rfl, fun hb => ?_, fun hb => ?_⟩
    · walk_at "tidy"
      refine we_one ?_
      refine wcB B.all bt_all ?_
      refine wa_cons ?_
      refine lcMapL (own := [("one", 1)]) (j := 1) sc_are_rooms.nd ?_ (blkOk_by (N := ["value", "one"]) (sc := defScope s_are_rooms) (by decide +kernel)) (fun _ _ _ _ _ => pg_name (i := 1) sc_are_rooms.nd rfl (Or.inl rfl))
      refine wv 0 rfl ?_
      refine ⟨xs, fun y => .bl (r y), rfl, hl, fun i yy hy l out s H C cl fp => ?_, ?_⟩
      · rcases hq9 yy (List.mem_of_getElem? hy) with ⟨t9, ht9, hk9⟩ | ⟨C9, fs9, rfl, hI9, hk9⟩
        · exact wcB B.isi boot_isinstance (wa_cons (wv 1 rfl (wa_cons (wgl hmR (wa_nil (cd_isiTC ht9 hk9 ⟨rfl, rfl⟩))))))
        · exact wcB B.isi boot_isinstance (wa_cons (wv 1 rfl (wa_cons (wgl hmR (wa_nil (cd_isiC (.inl rfl) hI9 hk9 ⟨rfl, rfl⟩))))))
      rw [show (xs.map fun y => D.bl (r y)) = (xs.map r).map D.bl by rw [List.map_map]; rfl]
      refine wa_nil ?_
      refine cd_all rfl ?_
      exact q
    · walk_at "dead"
theorem ok_are_roomsT {f : Addr} {fd : FuncData} (F : FunD K "are_rooms" "are_rooms" (defArgs s_are_rooms) (defBody s_are_rooms) (defScope s_are_rooms) [] [] f fd) (B : Bf mg) {CR : Addr} (hmR : mg "Room" = some (.ref CR)) (hSeq : HasFn P w K mg base 1 "is_sequence" S_is_seq) : FnOk P w K mg base CX0 2 f fd ["value"] (spOf K (S_areS K CR .tup)) := by
  refine fn_data (k := 1) F sc_are_rooms (fun ds M Φ h => ?_) (fun cdv A outer s H E ds M Φ hr h => ?_)
  · obtain ⟨xs, r, rfl, hl, hq9, q⟩ := h
    all_goals rfl
  · obtain ⟨xs, r, rfl, hl, hq9, q⟩ := h
    refine ws_ret ?_
    refine we_and ?_
    refine wcf hSeq (hr.mono (by decide)) ?_
    refine wa_cons ?_
    refine wv 0 rfl ?_
    refine wa_nil ?_
    refine ⟨_, _, rfl, rfl, ?_⟩
    rw [show (("tuple" : String) == "list" || ("tuple" : String) == "tuple") = true by decide]
    refine ⟨_, rfl, fun hb => ?_, fun hb => ?_⟩
    · walk_at "tidy"
      refine we_one ?_
      refine wcB B.all bt_all ?_
      refine wa_cons ?_
      refine lcMapT (own := [("one", 1)]) (j := 1) sc_are_rooms.nd ?_ (blkOk_by (N := ["value", "one"]) (sc := defScope s_are_rooms) (by decide +kernel)) (fun _ _ _ _ _ => pg_name (i := 1) sc_are_rooms.nd rfl (Or.inl rfl))
      refine wv 0 rfl ?_
      refine ⟨xs, fun y => .bl (r y), rfl, hl, fun i yy hy l out s H C cl fp => ?_, ?_⟩
      · rcases hq9 yy (List.mem_of_getElem? hy) with ⟨t9, ht9, hk9⟩ | ⟨C9, fs9, rfl, hI9, hk9⟩
        · exact wcB B.isi boot_isinstance (wa_cons (wv 1 rfl (wa_cons (wgl hmR (wa_nil (cd_isiTC ht9 hk9 ⟨rfl, rfl⟩))))))
        · exact wcB B.isi boot_isinstance (wa_cons (wv 1 rfl (wa_cons (wgl hmR (wa_nil (cd_isiC (.inl rfl) hI9 hk9 ⟨rfl, rfl⟩))))))
      rw [show (xs.map fun y => D.bl (r y)) = (xs.map r).map D.bl by rw [List.map_map]; rfl]
      refine wa_nil ?_
      refine cd_all rfl ?_
      exact q
    · walk_at "dead"
theorem ok_are_roomsN {f : Addr} {fd : FuncData} (F : FunD K "are_rooms" "are_rooms" (defArgs s_are_rooms) (defBody s_are_rooms) (defScope s_are_rooms) [] [] f fd) (B : Bf mg) {CR : Addr} (hmR : mg "Room" = some (.ref CR)) (hSeq : HasFn P w K mg base 1 "is_sequence" S_is_seq) : FnOk P w K mg base CX0 2 f fd ["value"] (spOf K S_areN) := by
  refine fn_data (k := 1) F sc_are_rooms (fun ds M Φ h => ?_) (fun cdv A outer s H E ds M Φ hr h => ?_)
  · obtain ⟨d, t, rfl, ht, hns, q⟩ := h
    all_goals rfl
  · obtain ⟨d, t, rfl, ht, hns, q⟩ := h
    refine ws_ret ?_
    refine we_and ?_
    refine wcf hSeq (hr.mono (by decide)) ?_
    refine wa_cons ?_
    refine wv 0 rfl ?_
    refine wa_nil ?_
    refine ⟨_, _, rfl, ht, ?_⟩
    rw [hns]
    refine ⟨_, rfl, fun hb => ?_, fun hb => ?_⟩
    · walk_at "dead"
    · walk_at "tidy"
      exact q
abbrev s_are_marks : Stmt := top 26
theorem sc_are_marks : FnScope ["value", "one"] ["value"] (defScope s_are_marks) := ⟨rfl, rfl, rfl, by decide +kernel, rfl, by decide +kernel, by decide +kernel⟩
theorem ok_are_marksL {f : Addr} {fd : FuncData} (F : FunD K "are_marks" "are_marks" (defArgs s_are_marks) (defBody s_are_marks) (defScope s_are_marks) [] [] f fd) (B : Bf mg) {CR : Addr} (hmR : mg "Mark" = some (.ref CR)) (hSeq : HasFn P w K mg base 1 "is_sequence" S_is_seq) : FnOk P w K mg base CX0 2 f fd ["value"] (spOf K (S_areS K CR .lst)) := by
  refine fn_data (k := 1) F sc_are_marks (fun ds M Φ h => ?_) (fun cdv A outer s H E ds M Φ hr h => ?_)
  · obtain ⟨xs, r, rfl, hl, hq9, q⟩ := h
    all_goals rfl
  · obtain ⟨xs, r, rfl, hl, hq9, q⟩ := h
    refine ws_ret ?_
    refine we_and ?_
    refine wcf hSeq (hr.mono (by decide)) ?_
    refine wa_cons ?_
    refine wv 0 rfl ?_
    refine wa_nil ?_
    refine ⟨_, _, rfl, rfl, ?_⟩
    rw [show (("list" : String) == "list" || ("list" : String) == "tuple") = true by decide]
    refine ⟨_, rfl, fun hb => ?_, fun hb => ?_⟩
    · walk_at "tidy"
      refine we_one ?_
      refine wcB B.all bt_all ?_
      refine wa_cons ?_
      refine lcMapL (own := [("one", 1)]) (j := 1) sc_are_marks.nd ?_ (blkOk_by (N := ["value", "one"]) (sc := defScope s_are_marks) (by decide +kernel)) (fun _ _ _ _ _ => pg_name (i := 1) sc_are_marks.nd rfl (Or.inl rfl))
      refine wv 0 rfl ?_
      refine ⟨xs, fun y => .bl (r y), rfl, hl, fun i yy hy l out s H C cl fp => ?_, ?_⟩
      · rcases hq9 yy (List.mem_of_getElem? hy) with ⟨t9, ht9, hk9⟩ | ⟨C9, fs9, rfl, hI9, hk9⟩
        · exact wcB B.isi boot_isinstance (wa_cons (wv 1 rfl (wa_cons (wgl hmR (wa_nil (cd_isiTC ht9 hk9 ⟨rfl, rfl⟩))))))
        · exact wcB B.isi boot_isinstance (wa_cons (wv 1 rfl (wa_cons (wgl hmR (wa_nil (cd_isiC (.inl rfl) hI9 hk9 ⟨rfl, rfl⟩))))))
      rw [show (xs.map fun y => D.bl (r y)) = (xs.map r).map D.bl by rw [List.map_map]; rfl]
      refine wa_nil ?_
      refine cd_all rfl ?_
      exact q
    · walk_at "dead"
theorem ok_are_marksT {f : Addr} {fd : FuncData} (F : FunD K "are_marks" "are_marks" (defArgs s_are_marks) (defBody s_are_marks) (defScope s_are_marks) [] [] f fd) (B : Bf mg) {CR : Addr} (hmR : mg "Mark" = some (.ref CR)) (hSeq : HasFn P w K mg base 1 "is_sequence" S_is_seq) : FnOk P w K mg base CX0 2 f fd ["value"] (spOf K (S_areS K CR .tup)) := by
  refine fn_data (k := 1) F sc_are_marks (fun ds M Φ h => ?_) (fun cdv A outer s H E ds M Φ hr h => ?_)
  · obtain ⟨xs, r, rfl, hl, hq9, q⟩ := h
    all_goals rfl
  · obtain ⟨xs, r, rfl, hl, hq9, q⟩ := h
    refine ws_ret ?_
    refine we_and ?_
    refine wcf hSeq (hr.mono (by decide)) ?_
    refine wa_cons ?_
    refine wv 0 rfl ?_
    refine wa_nil ?_
    refine ⟨_, _, rfl, rfl, ?_⟩
    rw [show (("tuple" : String) == "list" || ("tuple" : String) == "tuple") = true by decide]
    refine ⟨_, rfl, fun hb => ?_, fun hb => ?_⟩
    · walk_at "tidy"
      refine we_one ?_
      refine wcB B.all bt_all ?_
      refine wa_cons ?_
      refine lcMapT (own := [("one", 1)]) (j := 1) sc_are_marks.nd ?_ (blkOk_by (N := ["value", "one"]) (sc := defScope s_are_marks) (by decide +kernel)) (fun _ _ _ _ _ => pg_name (i := 1) sc_are_marks.nd rfl (Or.inl rfl))
      refine wv 0 rfl ?_
      refine ⟨xs, fun y => .bl (r y), rfl, hl, fun i yy hy l out s H C cl fp => ?_, ?_⟩
      · rcases hq9 yy (List.mem_of_getElem? hy) with ⟨t9, ht9, hk9⟩ | ⟨C9, fs9, rfl, hI9, hk9⟩
        · exact wcB B.isi boot_isinstance (wa_cons (wv 1 rfl (wa_cons (wgl hmR (wa_nil (cd_isiTC ht9 hk9 ⟨rfl, rfl⟩))))))
        · exact wcB B.isi boot_isinstance (wa_cons (wv 1 rfl (wa_cons (wgl hmR (wa_nil (cd_isiC (.inl rfl) hI9 hk9 ⟨rfl, rfl⟩))))))
      rw [show (xs.map fun y => D.bl (r y)) = (xs.map r).map D.bl by rw [List.map_map]; rfl]
      refine wa_nil ?_
      refine cd_all rfl ?_
      exact q
    · walk_at "dead"
theorem ok_are_marksN {f : Addr} {fd : FuncData} (F : FunD K "are_marks" "are_marks" (defArgs s_are_marks) (defBody s_are_marks) (defScope s_are_marks) [] [] f fd) (B : Bf mg) {CR : Addr} (hmR : mg "Mark" = some (.ref CR)) (hSeq : HasFn P w K mg base 1 "is_sequence" S_is_seq) : FnOk P w K mg base CX0 2 f fd ["value"] (spOf K S_areN) := by
  refine fn_data (k := 1) F sc_are_marks (fun ds M Φ h => ?_) (fun cdv A outer s H E ds M Φ hr h => ?_)
  · obtain ⟨d, t, rfl, ht, hns, q⟩ := h
    all_goals rfl
  · obtain ⟨d, t, rfl, ht, hns, q⟩ := h
    refine ws_ret ?_
    refine we_and ?_
    refine wcf hSeq (hr.mono (by decide)) ?_
    refine wa_cons ?_
    refine wv 0 rfl ?_
    refine wa_nil ?_
    refine ⟨_, _, rfl, ht, ?_⟩
    rw [hns]
    refine ⟨_, rfl, fun hb => ?_, fun hb => ?_⟩
    · walk_at "dead"
    · walk_at "tidy"
      exact q
abbrev s_has_twins : Stmt := top 27
theorem sc_has_twins : FnScope ["things", "thing"] ["things"] (defScope s_has_twins) := ⟨rfl, rfl, rfl, by decide +kernel, rfl, by decide +kernel, by decide +kernel⟩
theorem ok_has_twinsL {f : Addr} {fd : FuncData} (F : FunD K "has_twins" "has_twins" (defArgs s_has_twins) (defBody s_has_twins) (defScope s_has_twins) [] [] f fd) (B : Bf mg) : FnOk P w K mg base CX0 1 f fd ["things"] (spOf K (S_twins K .lst)) := by
  refine fn_data (k := 0) F sc_has_twins (fun ds M Φ h => ?_) (fun cdv A outer s H E ds M Φ hr h => ?_)
  · obtain ⟨xs, nm, rfl, hl, hy9, q⟩ := h
    all_goals rfl
  · obtain ⟨xs, nm, rfl, hl, hy9, q⟩ := h
    refine ws_ret ?_
    refine we_cmp ?_ (nomark _)
    refine we_lenSetL (own := [("thing", 1)]) (j := 1) sc_has_twins.nd B.len ?_ (by decide) (fun σ h => by rw [h]; exact (show 1 < 2 by decide)) (blkOk_by (N := ["things", "thing"]) (sc := defScope s_has_twins) (by decide +kernel)) rfl (fun _ _ _ _ _ => pg_name (i := 1) sc_has_twins.nd rfl (Or.inl rfl)) (fun _ _ _ _ _ => pe_at (j := 1) rfl (Or.inl rfl)) (by intro _; rfl)
    refine wv 0 rfl ?_
    refine ⟨xs, nm, rfl, hl, hy9, ?_⟩
    refine wcB B.len boot_len ?_
    refine wa_cons ?_
    refine wv 0 rfl ?_
    refine wa_nil ?_
    first
    | refine cd_len_lst ?_
    | refine cd_len_tup ?_
    walk_at "op"
    exact q
theorem ok_has_twinsT {f : Addr} {fd : FuncData} (F : FunD K "has_twins" "has_twins" (defArgs s_has_twins) (defBody s_has_twins) (defScope s_has_twins) [] [] f fd) (B : Bf mg) : FnOk P w K mg base CX0 1 f fd ["things"] (spOf K (S_twins K .tup)) := by
  refine fn_data (k := 0) F sc_has_twins (fun ds M Φ h => ?_) (fun cdv A outer s H E ds M Φ hr h => ?_)
  · obtain ⟨xs, nm, rfl, hl, hy9, q⟩ := h
    all_goals rfl
  · obtain ⟨xs, nm, rfl, hl, hy9, q⟩ := h
    refine ws_ret ?_
    refine we_cmp ?_ (nomark _)
    refine we_lenSetT (own := [("thing", 1)]) (j := 1) sc_has_twins.nd B.len ?_ (by decide) (fun σ h => by rw [h]; exact (show 1 < 2 by decide)) (blkOk_by (N := ["things", "thing"]) (sc := defScope s_has_twins) (by decide +kernel)) rfl (fun _ _ _ _ _ => pg_name (i := 1) sc_has_twins.nd rfl (Or.inl rfl)) (fun _ _ _ _ _ => pe_at (j := 1) rfl (Or.inl rfl)) (by intro _; rfl)
    refine wv 0 rfl ?_
    refine ⟨xs, nm, rfl, hl, hy9, ?_⟩
    refine wcB B.len boot_len ?_
    refine wa_cons ?_
    refine wv 0 rfl ?_
    refine wa_nil ?_
    first
    | refine cd_len_lst ?_
    | refine cd_len_tup ?_
    walk_at "op"
    exact q
end
end Sl57

set_option Elab.async false
set_option linter.all false
set_option maxRecDepth 100000
set_option maxHeartbeats 1000000

namespace Sl57
open PySem PySem.Spec PyProof.Rows L2 Dt
set_option hygiene false
local macro_rules | `(tactic| walk_at "op") => `(tactic| (first
  | refine od_add ?_ | refine od_sub ?_ | refine od_lt ?_ | refine od_le ?_ | refine od_gt ?_ | refine od_ge ?_ | refine od_eq ?_ | refine od_ne ?_ | refine od_is ?_ | refine od_isn ?_
  | refine od_eqS ?_ | refine od_neS ?_ | refine od_eqB ?_ | refine od_neB ?_))
local macro_rules | `(tactic| walk_at "dead") => `(tactic| (first
  | (cases hb; done)
  | (exact absurd (show false = true from hb) (by decide))
  | (exact absurd (show true = false from hb) (by decide))
  | (exact absurd hb (by decide))
  | (exfalso; simp only [decide_eq_true_eq, decide_eq_false_iff_not, Bool.not_eq_true', Bool.not_eq_false'] at hb; omega)))
local macro_rules | `(tactic| walk_at "tidy") => `(tactic| (try simp only [decide_eq_true_eq, decide_eq_false_iff_not, Bool.not_eq_true', Bool.not_eq_false'] at hb))
local macro_rules | `(tactic| walk_at "truth") => `(tactic| (first | refine tr_bl ?_ | refine tr_lst ?_ | refine tr_tup ?_ | refine tr_non ?_ | refine tr_int ?_))
local macro_rules | `(tactic| walk_at "ix") => `(tactic| (first
  | refine ix_tup (j := 0) rfl rfl ?_ | refine ix_tup (j := 1) rfl rfl ?_ | refine ix_tup (j := 2) rfl rfl ?_
  | refine ix_lst (j := 0) rfl rfl ?_ | refine ix_lst (j := 1) rfl rfl ?_ | refine ix_lst (j := 2) rfl rfl ?_
  | refine ix_own (k := 0) (j := 0) rfl rfl rfl ?_
  | refine ix_own (k := 0) (j := 1) rfl rfl rfl ?_
  | refine ix_own (k := 0) (j := 2) rfl rfl rfl ?_
  | refine ix_own (k := 1) (j := 0) rfl rfl rfl ?_
  | refine ix_own (k := 1) (j := 1) rfl rfl rfl ?_
  | refine ix_own (k := 1) (j := 2) rfl rfl rfl ?_
  | refine ix_own (k := 2) (j := 0) rfl rfl rfl ?_
  | refine ix_own (k := 2) (j := 1) rfl rfl rfl ?_
  | refine ix_own (k := 2) (j := 2) rfl rfl rfl ?_
  | refine ix_own (k := 3) (j := 0) rfl rfl rfl ?_
  | refine ix_own (k := 3) (j := 1) rfl rfl rfl ?_
  | refine ix_own (k := 3) (j := 2) rfl rfl rfl ?_
  | refine ix_own (k := 4) (j := 0) rfl rfl rfl ?_
  | refine ix_own (k := 4) (j := 1) rfl rfl rfl ?_
  | refine ix_own (k := 4) (j := 2) rfl rfl rfl ?_
  | refine ix_own (k := 5) (j := 0) rfl rfl rfl ?_
  | refine ix_own (k := 5) (j := 1) rfl rfl rfl ?_
  | refine ix_own (k := 5) (j := 2) rfl rfl rfl ?_
  | refine ix_own (k := 6) (j := 0) rfl rfl rfl ?_
  | refine ix_own (k := 6) (j := 1) rfl rfl rfl ?_
  | refine ix_own (k := 6) (j := 2) rfl rfl rfl ?_
  | refine ix_own (k := 7) (j := 0) rfl rfl rfl ?_
  | refine ix_own (k := 7) (j := 1) rfl rfl rfl ?_
  | refine ix_own (k := 7) (j := 2) rfl rfl rfl ?_
  | refine ix_own (k := 8) (j := 0) rfl rfl rfl ?_
  | refine ix_own (k := 8) (j := 1) rfl rfl rfl ?_
  | refine ix_own (k := 8) (j := 2) rfl rfl rfl ?_
  | refine ix_own (k := 9) (j := 0) rfl rfl rfl ?_
  | refine ix_own (k := 9) (j := 1) rfl rfl rfl ?_
  | refine ix_own (k := 9) (j := 2) rfl rfl rfl ?_
  | refine ix_own (k := 10) (j := 0) rfl rfl rfl ?_
  | refine ix_own (k := 10) (j := 1) rfl rfl rfl ?_
  | refine ix_own (k := 10) (j := 2) rfl rfl rfl ?_
  | refine ix_own (k := 11) (j := 0) rfl rfl rfl ?_
  | refine ix_own (k := 11) (j := 1) rfl rfl rfl ?_
  | refine ix_own (k := 11) (j := 2) rfl rfl rfl ?_
  | refine ix_own (k := 12) (j := 0) rfl rfl rfl ?_
  | refine ix_own (k := 12) (j := 1) rfl rfl rfl ?_
  | refine ix_own (k := 12) (j := 2) rfl rfl rfl ?_
  | refine ix_own (k := 13) (j := 0) rfl rfl rfl ?_
  | refine ix_own (k := 13) (j := 1) rfl rfl rfl ?_
  | refine ix_own (k := 13) (j := 2) rfl rfl rfl ?_))
local macro_rules | `(tactic| walk_at "seti") => `(tactic| (first
  | refine ⟨0, 0, _, _, _, rfl, rfl, rfl, rfl, of_decide_eq_true rfl, ?_⟩
  | refine ⟨0, 1, _, _, _, rfl, rfl, rfl, rfl, of_decide_eq_true rfl, ?_⟩
  | refine ⟨0, 2, _, _, _, rfl, rfl, rfl, rfl, of_decide_eq_true rfl, ?_⟩
  | refine ⟨1, 0, _, _, _, rfl, rfl, rfl, rfl, of_decide_eq_true rfl, ?_⟩
  | refine ⟨1, 1, _, _, _, rfl, rfl, rfl, rfl, of_decide_eq_true rfl, ?_⟩
  | refine ⟨1, 2, _, _, _, rfl, rfl, rfl, rfl, of_decide_eq_true rfl, ?_⟩
  | refine ⟨2, 0, _, _, _, rfl, rfl, rfl, rfl, of_decide_eq_true rfl, ?_⟩
  | refine ⟨2, 1, _, _, _, rfl, rfl, rfl, rfl, of_decide_eq_true rfl, ?_⟩
  | refine ⟨2, 2, _, _, _, rfl, rfl, rfl, rfl, of_decide_eq_true rfl, ?_⟩
  | refine ⟨3, 0, _, _, _, rfl, rfl, rfl, rfl, of_decide_eq_true rfl, ?_⟩
  | refine ⟨3, 1, _, _, _, rfl, rfl, rfl, rfl, of_decide_eq_true rfl, ?_⟩
  | refine ⟨3, 2, _, _, _, rfl, rfl, rfl, rfl, of_decide_eq_true rfl, ?_⟩
  | refine ⟨4, 0, _, _, _, rfl, rfl, rfl, rfl, of_decide_eq_true rfl, ?_⟩
  | refine ⟨4, 1, _, _, _, rfl, rfl, rfl, rfl, of_decide_eq_true rfl, ?_⟩
  | refine ⟨4, 2, _, _, _, rfl, rfl, rfl, rfl, of_decide_eq_true rfl, ?_⟩
  | refine ⟨5, 0, _, _, _, rfl, rfl, rfl, rfl, of_decide_eq_true rfl, ?_⟩
  | refine ⟨5, 1, _, _, _, rfl, rfl, rfl, rfl, of_decide_eq_true rfl, ?_⟩
  | refine ⟨5, 2, _, _, _, rfl, rfl, rfl, rfl, of_decide_eq_true rfl, ?_⟩
  | refine ⟨6, 0, _, _, _, rfl, rfl, rfl, rfl, of_decide_eq_true rfl, ?_⟩
  | refine ⟨6, 1, _, _, _, rfl, rfl, rfl, rfl, of_decide_eq_true rfl, ?_⟩
  | refine ⟨6, 2, _, _, _, rfl, rfl, rfl, rfl, of_decide_eq_true rfl, ?_⟩
  | refine ⟨7, 0, _, _, _, rfl, rfl, rfl, rfl, of_decide_eq_true rfl, ?_⟩
  | refine ⟨7, 1, _, _, _, rfl, rfl, rfl, rfl, of_decide_eq_true rfl, ?_⟩
  | refine ⟨7, 2, _, _, _, rfl, rfl, rfl, rfl, of_decide_eq_true rfl, ?_⟩
  | refine ⟨8, 0, _, _, _, rfl, rfl, rfl, rfl, of_decide_eq_true rfl, ?_⟩
  | refine ⟨8, 1, _, _, _, rfl, rfl, rfl, rfl, of_decide_eq_true rfl, ?_⟩
  | refine ⟨8, 2, _, _, _, rfl, rfl, rfl, rfl, of_decide_eq_true rfl, ?_⟩
  | refine ⟨9, 0, _, _, _, rfl, rfl, rfl, rfl, of_decide_eq_true rfl, ?_⟩
  | refine ⟨9, 1, _, _, _, rfl, rfl, rfl, rfl, of_decide_eq_true rfl, ?_⟩
  | refine ⟨9, 2, _, _, _, rfl, rfl, rfl, rfl, of_decide_eq_true rfl, ?_⟩
  | refine ⟨10, 0, _, _, _, rfl, rfl, rfl, rfl, of_decide_eq_true rfl, ?_⟩
  | refine ⟨10, 1, _, _, _, rfl, rfl, rfl, rfl, of_decide_eq_true rfl, ?_⟩
  | refine ⟨10, 2, _, _, _, rfl, rfl, rfl, rfl, of_decide_eq_true rfl, ?_⟩
  | refine ⟨11, 0, _, _, _, rfl, rfl, rfl, rfl, of_decide_eq_true rfl, ?_⟩
  | refine ⟨11, 1, _, _, _, rfl, rfl, rfl, rfl, of_decide_eq_true rfl, ?_⟩
  | refine ⟨11, 2, _, _, _, rfl, rfl, rfl, rfl, of_decide_eq_true rfl, ?_⟩
  | refine ⟨12, 0, _, _, _, rfl, rfl, rfl, rfl, of_decide_eq_true rfl, ?_⟩
  | refine ⟨12, 1, _, _, _, rfl, rfl, rfl, rfl, of_decide_eq_true rfl, ?_⟩
  | refine ⟨12, 2, _, _, _, rfl, rfl, rfl, rfl, of_decide_eq_true rfl, ?_⟩
  | refine ⟨13, 0, _, _, _, rfl, rfl, rfl, rfl, of_decide_eq_true rfl, ?_⟩
  | refine ⟨13, 1, _, _, _, rfl, rfl, rfl, rfl, of_decide_eq_true rfl, ?_⟩
  | refine ⟨13, 2, _, _, _, rfl, rfl, rfl, rfl, of_decide_eq_true rfl, ?_⟩))
local macro_rules | `(tactic| walk_at "lst") => `(tactic| (first
  | refine cd_list (.inr (.inr ⟨0, _, rfl, rfl⟩)) ?_
  | refine cd_list (.inr (.inr ⟨1, _, rfl, rfl⟩)) ?_
  | refine cd_list (.inr (.inr ⟨2, _, rfl, rfl⟩)) ?_
  | refine cd_list (.inr (.inr ⟨3, _, rfl, rfl⟩)) ?_
  | refine cd_list (.inr (.inr ⟨4, _, rfl, rfl⟩)) ?_
  | refine cd_list (.inr (.inr ⟨5, _, rfl, rfl⟩)) ?_
  | refine cd_list (.inr (.inr ⟨6, _, rfl, rfl⟩)) ?_
  | refine cd_list (.inr (.inr ⟨7, _, rfl, rfl⟩)) ?_
  | refine cd_list (.inr (.inr ⟨8, _, rfl, rfl⟩)) ?_
  | refine cd_list (.inr (.inr ⟨9, _, rfl, rfl⟩)) ?_
  | refine cd_list (.inr (.inr ⟨10, _, rfl, rfl⟩)) ?_
  | refine cd_list (.inr (.inr ⟨11, _, rfl, rfl⟩)) ?_
  | refine cd_list (.inr (.inr ⟨12, _, rfl, rfl⟩)) ?_
  | refine cd_list (.inr (.inr ⟨13, _, rfl, rfl⟩)) ?_))
local macro_rules | `(tactic| walk_at "isi") => `(tactic| (first | refine cd_isi (k := true) rfl (by decide +kernel) ?_ | refine cd_isi (k := false) rfl (by decide +kernel) ?_))
local macro_rules | `(tactic| walk_at "size") => `(tactic| (first
  | exact (show 0 ≤ sizeLine by decide) | exact (show 1 ≤ sizeLine by decide) | exact (show 2 ≤ sizeLine by decide) | exact (show 3 ≤ sizeLine by decide) | exact (show 4 ≤ sizeLine by decide) | exact (show 5 ≤ sizeLine by decide) | exact (show 6 ≤ sizeLine by decide) | exact (of_decide_eq_true rfl) | exact (Nat.le_of_ble_eq_true rfl)))

section
variable {P : Program} {w : World} {K : PySem.W.Frag} {mg : Str → Option Value} {base : Heap}
/-! ### Site.__init__ -/
def AreQ (K : PySem.W.Frag) (CR : Addr) (d : D) (b : Bool) : Prop := (∃ t, tyD d = some t ∧ (t == "list" || t == "tuple") = false ∧ b = false) ∨ ∃ (xs : List D) (r : D → Bool), (d = .lst xs ∨ d = .tup xs) ∧ xs.length < sizeLine ∧ (∀ y, y ∈ xs → RoomQ K CR y (r y)) ∧ b = (xs.map r).all id
def S_are (K : PySem.W.Frag) (CR : Addr) : DS := fun ds M Φ => ∃ d b, ds = [d] ∧ AreQ K CR d b ∧ Φ (.bl b) M
def TwQ (K : PySem.W.Frag) (d : D) (b : Bool) : Prop := ∃ (xs : List D) (nm : D → Str), (d = .lst xs ∨ d = .tup xs) ∧ xs.length < 4000 ∧ (∀ y, y ∈ xs → ∃ C fs, y = .obj C fs ∧ Cls K C ∧ NoAttr K C "name" ∧ fs.lookup ("name" : Str) = some (D.str (nm y))) ∧ b = decide ((((xs.map nm).foldl addS []).length : Int) < (xs.length : Int))
def S_tw (K : PySem.W.Frag) : DS := fun ds M Φ => ∃ d b, ds = [d] ∧ TwQ K d b ∧ Φ (.bl b) M
theorem are_or {K : PySem.W.Frag} {CR : Addr} {ds : List D} {M : Mem} {Φ : VP} (h : S_are K CR ds M Φ) : S_areN ds M Φ ∨ (S_areS K CR .lst ds M Φ ∨ S_areS K CR .tup ds M Φ) := by
  obtain ⟨d, b, rfl, (⟨t, h1, h2, rfl⟩ | ⟨xs, r, (rfl | rfl), hl, hq, rfl⟩), q⟩ := h
  · exact .inl ⟨d, t, rfl, h1, h2, q⟩
  · exact .inr (.inl ⟨xs, r, rfl, hl, hq, q⟩)
  · exact .inr (.inr ⟨xs, r, rfl, hl, hq, q⟩)
theorem tw_or {K : PySem.W.Frag} {ds : List D} {M : Mem} {Φ : VP} (h : S_tw K ds M Φ) : S_twins K .lst ds M Φ ∨ S_twins K .tup ds M Φ := by
  obtain ⟨d, b, rfl, ⟨xs, nm, (rfl | rfl), hl, hq, rfl⟩, q⟩ := h
  · exact .inl ⟨xs, nm, rfl, hl, hq, q⟩
  · exact .inr ⟨xs, nm, rfl, hl, hq, q⟩
def SzA (d : D) : Prop := ∃ t, tyD d = some t ∧ tyAll d = true ∧ ∀ xs, d = .tup xs → xs.length < sizeLine
structure StC (K : PySem.W.Frag) (C : Addr) : Prop where
  cls : Cls K C
  n1 : NoAttr K C "size"
  n2 : NoAttr K C "slips"
  n3 : NoAttr K C "rooms"
  n4 : NoAttr K C "marks"
/-- refused: the word, what holds of the arguments -/
def S_siteX (C CI : Addr) (word : Str) (R : D → D → D → D → Prop) : DSx := fun ds M Φ Ξ => ∃ (l : Addr) (sz sl rm mk : D) (M' : Mem), ds = [.adr l, sz, sl, rm, mk] ∧ M = (l, .ins C []) :: M' ∧ R sz sl rm mk ∧ Ξ CI [("word", .str word)] M
def siteF (sz sl : D) (rs ms : List D) : List (Str × D) := [("size", sz), ("slips", sl), ("rooms", .tup rs), ("marks", .tup ms)]
def R1 (sz sl rm mk : D) : Prop := SzA sz ∧ sizeOk sz = false
def R2 (sz sl rm mk : D) : Prop := (SzA sz ∧ sizeOk sz = true) ∧ SzA sl ∧ slipsOk sl = false
def R20 (sz sl : D) : Prop := (SzA sz ∧ sizeOk sz = true) ∧ SzA sl ∧ slipsOk sl = true
def R3 (K : PySem.W.Frag) (CR : Addr) (sz sl rm mk : D) : Prop := R20 sz sl ∧ AreQ K CR rm false
def R4 (K : PySem.W.Frag) (CR CM : Addr) (sz sl rm mk : D) : Prop := R20 sz sl ∧ AreQ K CR rm true ∧ AreQ K CM mk false
def R5 (K : PySem.W.Frag) (CR CM : Addr) (sz sl rm mk : D) : Prop := R20 sz sl ∧ AreQ K CR rm true ∧ AreQ K CM mk true ∧ TwQ K rm true
def R6 (K : PySem.W.Frag) (CR CM : Addr) (sz sl rm mk : D) : Prop := R20 sz sl ∧ AreQ K CR rm true ∧ AreQ K CM mk true ∧ TwQ K rm false ∧ TwQ K mk true
def S_siteG (C : Addr) (R : D → D → D → D → Prop) : DSx := fun ds M Φ Ξ => ∃ (l : Addr) (sz sl rm mk : D) (rs ms : List D) (M' : Mem), ds = [.adr l, sz, sl, rm, mk] ∧ M = (l, .ins C []) :: M' ∧ R sz sl rm mk ∧ (rm = .lst rs ∨ rm = .tup rs) ∧ (mk = .lst ms ∨ mk = .tup ms) ∧ Φ .non ((l, .ins C (siteF sz sl rs ms)) :: M')
def R7 (K : PySem.W.Frag) (CR CM : Addr) (sz sl rm mk : D) : Prop := R20 sz sl ∧ AreQ K CR rm true ∧ AreQ K CM mk true ∧ TwQ K rm false ∧ TwQ K mk false
abbrev s_Site_init : Stmt := inClass (top 28) 0
theorem sc_Site_init : FnScope ["self", "size", "slips", "rooms", "marks"] ["self", "size", "slips", "rooms", "marks"] (defScope s_Site_init) := ⟨rfl, rfl, rfl, by decide +kernel, rfl, by decide +kernel, by decide +kernel⟩
theorem ok_Site_init1 {f : Addr} {fd : FuncData} (F : FunD K "__init__" "Site.__init__" (defArgs s_Site_init) (defBody s_Site_init) (defScope s_Site_init) [.ref df1, .ref df2] [] f fd) (B : Bf mg) {C CI CR CM : Addr} (hSt : StC K C) (hEx : HasEx P w K mg base 1 CI "InvalidSite" "word") (hSz : HasFn P w K mg base 3 "is_size" S_is_size) (hSl : HasFn P w K mg base 3 "are_slips" S_are_slips) (hRm : HasFn P w K mg base 2 "are_rooms" (S_are K CR)) (hMk : HasFn P w K mg base 2 "are_marks" (S_are K CM)) (hTw : HasFn P w K mg base 1 "has_twins" (S_tw K)) : FnOk P w K mg base (L2.CX P w) 4 f fd ["self", "size", "slips", "rooms", "marks"] (spOfX K (S_siteX C CI "size" R1)) := by
  refine fn_dataX (k := 3) F sc_Site_init (fun ds M Φ Ξ h => ?_) (fun cdv A outer s H E ds M Φ Ξ hr h => ?_)
  · obtain ⟨l, sz, sl, rm, mk, M', rfl, rfl, ⟨hz1, hz2⟩, q⟩ := h
    all_goals rfl
  · obtain ⟨l, sz, sl, rm, mk, M', rfl, rfl, ⟨hz1, hz2⟩, q⟩ := h
    refine wx_if ?_
    refine wt_not ?_
    refine wt_val ?_ (by intro _; rfl)
    refine wcf hSz (hr.mono (by decide)) ?_
    refine wa_cons ?_
    refine wv 1 rfl ?_
    refine wa_nil ?_
    obtain ⟨t9, u1, u2, u3⟩ := hz1
    refine ⟨_, _, rfl, u1, u2, u3, ?_⟩
    rw [hz2]
    walk_at "truth"
    refine ⟨fun hb => ?_, fun hb => ?_⟩
    · walk_at "tidy"
      refine wx_raise hEx (hr.mono (by decide)) ?_
      refine wa_cons ?_
      refine we_str ?_
      refine wa_nil ?_
      exact ⟨_, rfl, q⟩
    · walk_at "dead"
theorem ok_Site_init2 {f : Addr} {fd : FuncData} (F : FunD K "__init__" "Site.__init__" (defArgs s_Site_init) (defBody s_Site_init) (defScope s_Site_init) [.ref df1, .ref df2] [] f fd) (B : Bf mg) {C CI CR CM : Addr} (hSt : StC K C) (hEx : HasEx P w K mg base 1 CI "InvalidSite" "word") (hSz : HasFn P w K mg base 3 "is_size" S_is_size) (hSl : HasFn P w K mg base 3 "are_slips" S_are_slips) (hRm : HasFn P w K mg base 2 "are_rooms" (S_are K CR)) (hMk : HasFn P w K mg base 2 "are_marks" (S_are K CM)) (hTw : HasFn P w K mg base 1 "has_twins" (S_tw K)) : FnOk P w K mg base (L2.CX P w) 4 f fd ["self", "size", "slips", "rooms", "marks"] (spOfX K (S_siteX C CI "slips" R2)) := by
  refine fn_dataX (k := 3) F sc_Site_init (fun ds M Φ Ξ h => ?_) (fun cdv A outer s H E ds M Φ Ξ hr h => ?_)
  · obtain ⟨l, sz, sl, rm, mk, M', rfl, rfl, ⟨⟨hz1, hz2⟩, hs1, hs2⟩, q⟩ := h
    all_goals rfl
  · obtain ⟨l, sz, sl, rm, mk, M', rfl, rfl, ⟨⟨hz1, hz2⟩, hs1, hs2⟩, q⟩ := h
    refine wx_if ?_
    refine wt_not ?_
    refine wt_val ?_ (by intro _; rfl)
    refine wcf hSz (hr.mono (by decide)) ?_
    refine wa_cons ?_
    refine wv 1 rfl ?_
    refine wa_nil ?_
    obtain ⟨t9, u1, u2, u3⟩ := hz1
    refine ⟨_, _, rfl, u1, u2, u3, ?_⟩
    rw [hz2]
    walk_at "truth"
    refine ⟨fun hb => ?_, fun hb => ?_⟩
    · walk_at "dead"
    · walk_at "tidy"
      refine wx_nil ?_
      refine wx_if ?_
      refine wt_not ?_
      refine wt_val ?_ (by intro _; rfl)
      refine wcf hSl (hr.mono (by decide)) ?_
      refine wa_cons ?_
      refine wv 2 rfl ?_
      refine wa_nil ?_
      obtain ⟨t9, u1, u2, u3⟩ := hs1
      refine ⟨_, _, rfl, u1, u2, u3, ?_⟩
      rw [hs2]
      walk_at "truth"
      refine ⟨fun hb => ?_, fun hb => ?_⟩
      · walk_at "tidy"
        refine wx_raise hEx (hr.mono (by decide)) ?_
        refine wa_cons ?_
        refine we_str ?_
        refine wa_nil ?_
        exact ⟨_, rfl, q⟩
      · walk_at "dead"
theorem ok_Site_init3 {f : Addr} {fd : FuncData} (F : FunD K "__init__" "Site.__init__" (defArgs s_Site_init) (defBody s_Site_init) (defScope s_Site_init) [.ref df1, .ref df2] [] f fd) (B : Bf mg) {C CI CR CM : Addr} (hSt : StC K C) (hEx : HasEx P w K mg base 1 CI "InvalidSite" "word") (hSz : HasFn P w K mg base 3 "is_size" S_is_size) (hSl : HasFn P w K mg base 3 "are_slips" S_are_slips) (hRm : HasFn P w K mg base 2 "are_rooms" (S_are K CR)) (hMk : HasFn P w K mg base 2 "are_marks" (S_are K CM)) (hTw : HasFn P w K mg base 1 "has_twins" (S_tw K)) : FnOk P w K mg base (L2.CX P w) 4 f fd ["self", "size", "slips", "rooms", "marks"] (spOfX K (S_siteX C CI "rooms" (R3 K CR))) := by
  refine fn_dataX (k := 3) F sc_Site_init (fun ds M Φ Ξ h => ?_) (fun cdv A outer s H E ds M Φ Ξ hr h => ?_)
  · obtain ⟨l, sz, sl, rm, mk, M', rfl, rfl, ⟨⟨⟨hz1, hz2⟩, hs1, hs2⟩, ha⟩, q⟩ := h
    all_goals rfl
  · obtain ⟨l, sz, sl, rm, mk, M', rfl, rfl, ⟨⟨⟨hz1, hz2⟩, hs1, hs2⟩, ha⟩, q⟩ := h
    refine wx_if ?_
    refine wt_not ?_
    refine wt_val ?_ (by intro _; rfl)
    refine wcf hSz (hr.mono (by decide)) ?_
    refine wa_cons ?_
    refine wv 1 rfl ?_
    refine wa_nil ?_
    obtain ⟨t9, u1, u2, u3⟩ := hz1
    refine ⟨_, _, rfl, u1, u2, u3, ?_⟩
    rw [hz2]
    walk_at "truth"
    refine ⟨fun hb => ?_, fun hb => ?_⟩
    · walk_at "dead"
    · walk_at "tidy"
      refine wx_nil ?_
      refine wx_if ?_
      refine wt_not ?_
      refine wt_val ?_ (by intro _; rfl)
      refine wcf hSl (hr.mono (by decide)) ?_
      refine wa_cons ?_
      refine wv 2 rfl ?_
      refine wa_nil ?_
      obtain ⟨t9, u1, u2, u3⟩ := hs1
      refine ⟨_, _, rfl, u1, u2, u3, ?_⟩
      rw [hs2]
      walk_at "truth"
      refine ⟨fun hb => ?_, fun hb => ?_⟩
      · walk_at "dead"
      · walk_at "tidy"
        refine wx_nil ?_
        refine wx_if ?_
        refine wt_not ?_
        refine wt_val ?_ (by intro _; rfl)
        refine wcf hRm (hr.mono (by decide)) ?_
        refine wa_cons ?_
        refine wv 3 rfl ?_
        refine wa_nil ?_
        refine ⟨_, _, rfl, ha, ?_⟩
        walk_at "truth"
        refine ⟨fun hb => ?_, fun hb => ?_⟩
        · walk_at "tidy"
          refine wx_raise hEx (hr.mono (by decide)) ?_
          refine wa_cons ?_
          refine we_str ?_
          refine wa_nil ?_
          exact ⟨_, rfl, q⟩
        · walk_at "dead"
theorem ok_Site_init4 {f : Addr} {fd : FuncData} (F : FunD K "__init__" "Site.__init__" (defArgs s_Site_init) (defBody s_Site_init) (defScope s_Site_init) [.ref df1, .ref df2] [] f fd) (B : Bf mg) {C CI CR CM : Addr} (hSt : StC K C) (hEx : HasEx P w K mg base 1 CI "InvalidSite" "word") (hSz : HasFn P w K mg base 3 "is_size" S_is_size) (hSl : HasFn P w K mg base 3 "are_slips" S_are_slips) (hRm : HasFn P w K mg base 2 "are_rooms" (S_are K CR)) (hMk : HasFn P w K mg base 2 "are_marks" (S_are K CM)) (hTw : HasFn P w K mg base 1 "has_twins" (S_tw K)) : FnOk P w K mg base (L2.CX P w) 4 f fd ["self", "size", "slips", "rooms", "marks"] (spOfX K (S_siteX C CI "marks" (R4 K CR CM))) := by
  refine fn_dataX (k := 3) F sc_Site_init (fun ds M Φ Ξ h => ?_) (fun cdv A outer s H E ds M Φ Ξ hr h => ?_)
  · obtain ⟨l, sz, sl, rm, mk, M', rfl, rfl, ⟨⟨⟨hz1, hz2⟩, hs1, hs2⟩, ha, hb9⟩, q⟩ := h
    all_goals rfl
  · obtain ⟨l, sz, sl, rm, mk, M', rfl, rfl, ⟨⟨⟨hz1, hz2⟩, hs1, hs2⟩, ha, hb9⟩, q⟩ := h
    refine wx_if ?_
    refine wt_not ?_
    refine wt_val ?_ (by intro _; rfl)
    refine wcf hSz (hr.mono (by decide)) ?_
    refine wa_cons ?_
    refine wv 1 rfl ?_
    refine wa_nil ?_
    obtain ⟨t9, u1, u2, u3⟩ := hz1
    refine ⟨_, _, rfl, u1, u2, u3, ?_⟩
    rw [hz2]
    walk_at "truth"
    refine ⟨fun hb => ?_, fun hb => ?_⟩
    · walk_at "dead"
    · walk_at "tidy"
      refine wx_nil ?_
      refine wx_if ?_
      refine wt_not ?_
      refine wt_val ?_ (by intro _; rfl)
      refine wcf hSl (hr.mono (by decide)) ?_
      refine wa_cons ?_
      refine wv 2 rfl ?_
      refine wa_nil ?_
      obtain ⟨t9, u1, u2, u3⟩ := hs1
      refine ⟨_, _, rfl, u1, u2, u3, ?_⟩
      rw [hs2]
      walk_at "truth"
      refine ⟨fun hb => ?_, fun hb => ?_⟩
      · walk_at "dead"
      · walk_at "tidy"
        refine wx_nil ?_
        refine wx_if ?_
        refine wt_not ?_
        refine wt_val ?_ (by intro _; rfl)
        refine wcf hRm (hr.mono (by decide)) ?_
        refine wa_cons ?_
        refine wv 3 rfl ?_
        refine wa_nil ?_
        refine ⟨_, _, rfl, ha, ?_⟩
        walk_at "truth"
        refine ⟨fun hb => ?_, fun hb => ?_⟩
        · walk_at "dead"
        · walk_at "tidy"
          refine wx_nil ?_
          refine wx_if ?_
          refine wt_not ?_
          refine wt_val ?_ (by intro _; rfl)
          refine wcf hMk (hr.mono (by decide)) ?_
          refine wa_cons ?_
          refine wv 4 rfl ?_
          refine wa_nil ?_
          refine ⟨_, _, rfl, hb9, ?_⟩
          walk_at "truth"
          refine ⟨fun hb => ?_, fun hb => ?_⟩
          · walk_at "tidy"
            refine wx_raise hEx (hr.mono (by decide)) ?_
            refine wa_cons ?_
            refine we_str ?_
            refine wa_nil ?_
            exact ⟨_, rfl, q⟩
          · walk_at "dead"
theorem ok_Site_init5 {f : Addr} {fd : FuncData} (F : FunD K "__init__" "Site.__init__" (defArgs s_Site_init) (defBody s_Site_init) (defScope s_Site_init) [.ref df1, .ref df2] [] f fd) (B : Bf mg) {C CI CR CM : Addr} (hSt : StC K C) (hEx : HasEx P w K mg base 1 CI "InvalidSite" "word") (hSz : HasFn P w K mg base 3 "is_size" S_is_size) (hSl : HasFn P w K mg base 3 "are_slips" S_are_slips) (hRm : HasFn P w K mg base 2 "are_rooms" (S_are K CR)) (hMk : HasFn P w K mg base 2 "are_marks" (S_are K CM)) (hTw : HasFn P w K mg base 1 "has_twins" (S_tw K)) : FnOk P w K mg base (L2.CX P w) 4 f fd ["self", "size", "slips", "rooms", "marks"] (spOfX K (S_siteX C CI "name" (R5 K CR CM))) := by
  refine fn_dataX (k := 3) F sc_Site_init (fun ds M Φ Ξ h => ?_) (fun cdv A outer s H E ds M Φ Ξ hr h => ?_)
  · obtain ⟨l, sz, sl, rm, mk, M', rfl, rfl, ⟨⟨⟨hz1, hz2⟩, hs1, hs2⟩, ha, hb9, hc⟩, q⟩ := h
    all_goals rfl
  · obtain ⟨l, sz, sl, rm, mk, M', rfl, rfl, ⟨⟨⟨hz1, hz2⟩, hs1, hs2⟩, ha, hb9, hc⟩, q⟩ := h
    refine wx_if ?_
    refine wt_not ?_
    refine wt_val ?_ (by intro _; rfl)
    refine wcf hSz (hr.mono (by decide)) ?_
    refine wa_cons ?_
    refine wv 1 rfl ?_
    refine wa_nil ?_
    obtain ⟨t9, u1, u2, u3⟩ := hz1
    refine ⟨_, _, rfl, u1, u2, u3, ?_⟩
    rw [hz2]
    walk_at "truth"
    refine ⟨fun hb => ?_, fun hb => ?_⟩
    · walk_at "dead"
    · walk_at "tidy"
      refine wx_nil ?_
      refine wx_if ?_
      refine wt_not ?_
      refine wt_val ?_ (by intro _; rfl)
      refine wcf hSl (hr.mono (by decide)) ?_
      refine wa_cons ?_
      refine wv 2 rfl ?_
      refine wa_nil ?_
      obtain ⟨t9, u1, u2, u3⟩ := hs1
      refine ⟨_, _, rfl, u1, u2, u3, ?_⟩
      rw [hs2]
      walk_at "truth"
      refine ⟨fun hb => ?_, fun hb => ?_⟩
      · walk_at "dead"
      · walk_at "tidy"
        refine wx_nil ?_
        refine wx_if ?_
        refine wt_not ?_
        refine wt_val ?_ (by intro _; rfl)
        refine wcf hRm (hr.mono (by decide)) ?_
        refine wa_cons ?_
        refine wv 3 rfl ?_
        refine wa_nil ?_
        refine ⟨_, _, rfl, ha, ?_⟩
        walk_at "truth"
        refine ⟨fun hb => ?_, fun hb => ?_⟩
        · walk_at "dead"
        · walk_at "tidy"
          refine wx_nil ?_
          refine wx_if ?_
          refine wt_not ?_
          refine wt_val ?_ (by intro _; rfl)
          refine wcf hMk (hr.mono (by decide)) ?_
          refine wa_cons ?_
          refine wv 4 rfl ?_
          refine wa_nil ?_
          refine ⟨_, _, rfl, hb9, ?_⟩
          walk_at "truth"
          refine ⟨fun hb => ?_, fun hb => ?_⟩
          · walk_at "dead"
          · walk_at "tidy"
            refine wx_nil ?_
            refine wx_if ?_
            refine wt_bool ?_
            refine ww_or ?_
            refine wt_val ?_ (by intro _; rfl)
            refine wcf hTw (hr.mono (by decide)) ?_
            refine wa_cons ?_
            refine wv 3 rfl ?_
            refine wa_nil ?_
            refine ⟨_, _, rfl, hc, ?_⟩
            walk_at "truth"
            refine ⟨fun hb => ?_, fun hb => ?_⟩
            · walk_at "tidy"
              refine ⟨fun hb => ?_, fun hb => ?_⟩
              · walk_at "tidy"
                refine wx_raise hEx (hr.mono (by decide)) ?_
                refine wa_cons ?_
                refine we_str ?_
                refine wa_nil ?_
                exact ⟨_, rfl, q⟩
              · walk_at "dead"
            · walk_at "dead"
theorem ok_Site_init6 {f : Addr} {fd : FuncData} (F : FunD K "__init__" "Site.__init__" (defArgs s_Site_init) (defBody s_Site_init) (defScope s_Site_init) [.ref df1, .ref df2] [] f fd) (B : Bf mg) {C CI CR CM : Addr} (hSt : StC K C) (hEx : HasEx P w K mg base 1 CI "InvalidSite" "word") (hSz : HasFn P w K mg base 3 "is_size" S_is_size) (hSl : HasFn P w K mg base 3 "are_slips" S_are_slips) (hRm : HasFn P w K mg base 2 "are_rooms" (S_are K CR)) (hMk : HasFn P w K mg base 2 "are_marks" (S_are K CM)) (hTw : HasFn P w K mg base 1 "has_twins" (S_tw K)) : FnOk P w K mg base (L2.CX P w) 4 f fd ["self", "size", "slips", "rooms", "marks"] (spOfX K (S_siteX C CI "name" (R6 K CR CM))) := by
  refine fn_dataX (k := 3) F sc_Site_init (fun ds M Φ Ξ h => ?_) (fun cdv A outer s H E ds M Φ Ξ hr h => ?_)
  · obtain ⟨l, sz, sl, rm, mk, M', rfl, rfl, ⟨⟨⟨hz1, hz2⟩, hs1, hs2⟩, ha, hb9, hc, hd⟩, q⟩ := h
    all_goals rfl
  · obtain ⟨l, sz, sl, rm, mk, M', rfl, rfl, ⟨⟨⟨hz1, hz2⟩, hs1, hs2⟩, ha, hb9, hc, hd⟩, q⟩ := h
    refine wx_if ?_
    refine wt_not ?_
    refine wt_val ?_ (by intro _; rfl)
    refine wcf hSz (hr.mono (by decide)) ?_
    refine wa_cons ?_
    refine wv 1 rfl ?_
    refine wa_nil ?_
    obtain ⟨t9, u1, u2, u3⟩ := hz1
    refine ⟨_, _, rfl, u1, u2, u3, ?_⟩
    rw [hz2]
    walk_at "truth"
    refine ⟨fun hb => ?_, fun hb => ?_⟩
    · walk_at "dead"
    · walk_at "tidy"
      refine wx_nil ?_
      refine wx_if ?_
      refine wt_not ?_
      refine wt_val ?_ (by intro _; rfl)
      refine wcf hSl (hr.mono (by decide)) ?_
      refine wa_cons ?_
      refine wv 2 rfl ?_
      refine wa_nil ?_
      obtain ⟨t9, u1, u2, u3⟩ := hs1
      refine ⟨_, _, rfl, u1, u2, u3, ?_⟩
      rw [hs2]
      walk_at "truth"
      refine ⟨fun hb => ?_, fun hb => ?_⟩
      · walk_at "dead"
      · walk_at "tidy"
        refine wx_nil ?_
        refine wx_if ?_
        refine wt_not ?_
        refine wt_val ?_ (by intro _; rfl)
        refine wcf hRm (hr.mono (by decide)) ?_
        refine wa_cons ?_
        refine wv 3 rfl ?_
        refine wa_nil ?_
        refine ⟨_, _, rfl, ha, ?_⟩
        walk_at "truth"
        refine ⟨fun hb => ?_, fun hb => ?_⟩
        · walk_at "dead"
        · walk_at "tidy"
          refine wx_nil ?_
          refine wx_if ?_
          refine wt_not ?_
          refine wt_val ?_ (by intro _; rfl)
          refine wcf hMk (hr.mono (by decide)) ?_
          refine wa_cons ?_
          refine wv 4 rfl ?_
          refine wa_nil ?_
          refine ⟨_, _, rfl, hb9, ?_⟩
          walk_at "truth"
          refine ⟨fun hb => ?_, fun hb => ?_⟩
          · walk_at "dead"
          · walk_at "tidy"
            refine wx_nil ?_
            refine wx_if ?_
            refine wt_bool ?_
            refine ww_or ?_
            refine wt_val ?_ (by intro _; rfl)
            refine wcf hTw (hr.mono (by decide)) ?_
            refine wa_cons ?_
            refine wv 3 rfl ?_
            refine wa_nil ?_
            refine ⟨_, _, rfl, hc, ?_⟩
            walk_at "truth"
            refine ⟨fun hb => ?_, fun hb => ?_⟩
            · walk_at "dead"
            · walk_at "tidy"
              refine ww_or1 ?_
              refine wt_val ?_ (by intro _; rfl)
              refine wcf hTw (hr.mono (by decide)) ?_
              refine wa_cons ?_
              refine wv 4 rfl ?_
              refine wa_nil ?_
              refine ⟨_, _, rfl, hd, ?_⟩
              walk_at "truth"
              refine ⟨fun hb => ?_, fun hb => ?_⟩
              · walk_at "tidy"
                refine wx_raise hEx (hr.mono (by decide)) ?_
                refine wa_cons ?_
                refine we_str ?_
                refine wa_nil ?_
                exact ⟨_, rfl, q⟩
              · walk_at "dead"
theorem ok_Site_init7 {f : Addr} {fd : FuncData} (F : FunD K "__init__" "Site.__init__" (defArgs s_Site_init) (defBody s_Site_init) (defScope s_Site_init) [.ref df1, .ref df2] [] f fd) (B : Bf mg) {C CI CR CM : Addr} (hSt : StC K C) (hEx : HasEx P w K mg base 1 CI "InvalidSite" "word") (hSz : HasFn P w K mg base 3 "is_size" S_is_size) (hSl : HasFn P w K mg base 3 "are_slips" S_are_slips) (hRm : HasFn P w K mg base 2 "are_rooms" (S_are K CR)) (hMk : HasFn P w K mg base 2 "are_marks" (S_are K CM)) (hTw : HasFn P w K mg base 1 "has_twins" (S_tw K)) : FnOk P w K mg base (L2.CX P w) 4 f fd ["self", "size", "slips", "rooms", "marks"] (spOfX K (S_siteG C (R7 K CR CM))) := by
  refine fn_dataX (k := 3) F sc_Site_init (fun ds M Φ Ξ h => ?_) (fun cdv A outer s H E ds M Φ Ξ hr h => ?_)
  · obtain ⟨l, sz, sl, rm, mk, rs, ms, M', rfl, rfl, ⟨⟨⟨hz1, hz2⟩, hs1, hs2⟩, ha, hb9, hc, hd⟩, hrm, hmk, q⟩ := h
    all_goals rfl
  · obtain ⟨l, sz, sl, rm, mk, rs, ms, M', rfl, rfl, ⟨⟨⟨hz1, hz2⟩, hs1, hs2⟩, ha, hb9, hc, hd⟩, hrm, hmk, q⟩ := h
    refine wx_if ?_
    refine wt_not ?_
    refine wt_val ?_ (by intro _; rfl)
    refine wcf hSz (hr.mono (by decide)) ?_
    refine wa_cons ?_
    refine wv 1 rfl ?_
    refine wa_nil ?_
    obtain ⟨t9, u1, u2, u3⟩ := hz1
    refine ⟨_, _, rfl, u1, u2, u3, ?_⟩
    rw [hz2]
    walk_at "truth"
    refine ⟨fun hb => ?_, fun hb => ?_⟩
    · walk_at "dead"
    · walk_at "tidy"
      refine wx_nil ?_
      refine wx_if ?_
      refine wt_not ?_
      refine wt_val ?_ (by intro _; rfl)
      refine wcf hSl (hr.mono (by decide)) ?_
      refine wa_cons ?_
      refine wv 2 rfl ?_
      refine wa_nil ?_
      obtain ⟨t9, u1, u2, u3⟩ := hs1
      refine ⟨_, _, rfl, u1, u2, u3, ?_⟩
      rw [hs2]
      walk_at "truth"
      refine ⟨fun hb => ?_, fun hb => ?_⟩
      · walk_at "dead"
      · walk_at "tidy"
        refine wx_nil ?_
        refine wx_if ?_
        refine wt_not ?_
        refine wt_val ?_ (by intro _; rfl)
        refine wcf hRm (hr.mono (by decide)) ?_
        refine wa_cons ?_
        refine wv 3 rfl ?_
        refine wa_nil ?_
        refine ⟨_, _, rfl, ha, ?_⟩
        walk_at "truth"
        refine ⟨fun hb => ?_, fun hb => ?_⟩
        · walk_at "dead"
        · walk_at "tidy"
          refine wx_nil ?_
          refine wx_if ?_
          refine wt_not ?_
          refine wt_val ?_ (by intro _; rfl)
          refine wcf hMk (hr.mono (by decide)) ?_
          refine wa_cons ?_
          refine wv 4 rfl ?_
          refine wa_nil ?_
          refine ⟨_, _, rfl, hb9, ?_⟩
          walk_at "truth"
          refine ⟨fun hb => ?_, fun hb => ?_⟩
          · walk_at "dead"
          · walk_at "tidy"
            refine wx_nil ?_
            refine wx_if ?_
            refine wt_bool ?_
            refine ww_or ?_
            refine wt_val ?_ (by intro _; rfl)
            refine wcf hTw (hr.mono (by decide)) ?_
            refine wa_cons ?_
            refine wv 3 rfl ?_
            refine wa_nil ?_
            refine ⟨_, _, rfl, hc, ?_⟩
            walk_at "truth"
            refine ⟨fun hb => ?_, fun hb => ?_⟩
            · walk_at "dead"
            · walk_at "tidy"
              refine ww_or1 ?_
              refine wt_val ?_ (by intro _; rfl)
              refine wcf hTw (hr.mono (by decide)) ?_
              refine wa_cons ?_
              refine wv 4 rfl ?_
              refine wa_nil ?_
              refine ⟨_, _, rfl, hd, ?_⟩
              walk_at "truth"
              refine ⟨fun hb => ?_, fun hb => ?_⟩
              · walk_at "dead"
              · walk_at "tidy"
                refine wx_nil ?_
                refine wx_1 (w1_fld ?_ rfl)
                refine wv 1 rfl ?_
                refine wv 0 rfl ?_
                refine ⟨0, l, C, _, rfl, rfl, hSt.cls, hSt.n1, (show 0 < 1000 by decide), ?_⟩
                refine wx_wk (Γ' := [some (.adr l), some sz, some sl, some rm, some mk]) (M' := (l, .ins C [("size", sz)]) :: M') (by repeat (first | exact wkE | refine wkS ?_ | refine wkN ?_)) (List.Sublist.refl _) ?_
                refine wx_1 (w1_fld ?_ rfl)
                refine wv 2 rfl ?_
                refine wv 0 rfl ?_
                refine ⟨0, l, C, _, rfl, rfl, hSt.cls, hSt.n2, (show 1 < 1000 by decide), ?_⟩
                refine wx_wk (Γ' := [some (.adr l), some sz, some sl, some rm, some mk]) (M' := (l, .ins C [("size", sz), ("slips", sl)]) :: M') (by repeat (first | exact wkE | refine wkS ?_ | refine wkN ?_)) (List.Sublist.refl _) ?_
                refine wx_1 (w1_fld ?_ rfl)
                refine wcT B.tuple boot_tuple ?_
                refine wa_cons ?_
                refine wv 3 rfl ?_
                refine wa_nil ?_
                refine cd_tuple (hrm.imp id fun z => .inl z) ?_
                refine wv 0 rfl ?_
                refine ⟨0, l, C, _, rfl, rfl, hSt.cls, hSt.n3, (show 2 < 1000 by decide), ?_⟩
                refine wx_wk (Γ' := [some (.adr l), some sz, some sl, some rm, some mk]) (M' := (l, .ins C [("size", sz), ("slips", sl), ("rooms", .tup rs)]) :: M') (by repeat (first | exact wkE | refine wkS ?_ | refine wkN ?_)) (List.Sublist.refl _) ?_
                refine wx_1 (w1_fld ?_ rfl)
                refine wcT B.tuple boot_tuple ?_
                refine wa_cons ?_
                refine wv 4 rfl ?_
                refine wa_nil ?_
                refine cd_tuple (hmk.imp id fun z => .inl z) ?_
                refine wv 0 rfl ?_
                refine ⟨0, l, C, _, rfl, rfl, hSt.cls, hSt.n4, (show 3 < 1000 by decide), ?_⟩
                refine wx_wk (Γ' := [some (.adr l), some sz, some sl, some rm, some mk]) (M' := (l, .ins C [("size", sz), ("slips", sl), ("rooms", .tup rs), ("marks", .tup ms)]) :: M') (by repeat (first | exact wkE | refine wkS ?_ | refine wkN ?_)) (List.Sublist.refl _) ?_
                refine wx_nil ?_
                exact q
end
end Sl57

set_option Elab.async false
set_option linter.all false
set_option maxRecDepth 100000
set_option maxHeartbeats 1000000

namespace Sl57
open PySem PySem.Spec PyProof.Rows L2 Dt
set_option hygiene false
local macro_rules | `(tactic| walk_at "op") => `(tactic| (first
  | refine od_add ?_ | refine od_sub ?_ | refine od_lt ?_ | refine od_le ?_ | refine od_gt ?_ | refine od_ge ?_ | refine od_eq ?_ | refine od_ne ?_ | refine od_is ?_ | refine od_isn ?_
  | refine od_eqS ?_ | refine od_neS ?_ | refine od_eqB ?_ | refine od_neB ?_))
local macro_rules | `(tactic| walk_at "dead") => `(tactic| (first
  | (cases hb; done)
  | (exact absurd (show false = true from hb) (by decide))
  | (exact absurd (show true = false from hb) (by decide))
  | (exact absurd hb (by decide))
  | (exfalso; simp only [decide_eq_true_eq, decide_eq_false_iff_not, Bool.not_eq_true', Bool.not_eq_false'] at hb; omega)))
local macro_rules | `(tactic| walk_at "tidy") => `(tactic| (try simp only [decide_eq_true_eq, decide_eq_false_iff_not, Bool.not_eq_true', Bool.not_eq_false'] at hb))
local macro_rules | `(tactic| walk_at "truth") => `(tactic| (first | refine tr_bl ?_ | refine tr_lst ?_ | refine tr_tup ?_ | refine tr_non ?_ | refine tr_int ?_))
local macro_rules | `(tactic| walk_at "ix") => `(tactic| (first
  | refine ix_tup (j := 0) rfl rfl ?_ | refine ix_tup (j := 1) rfl rfl ?_ | refine ix_tup (j := 2) rfl rfl ?_
  | refine ix_lst (j := 0) rfl rfl ?_ | refine ix_lst (j := 1) rfl rfl ?_ | refine ix_lst (j := 2) rfl rfl ?_
  | refine ix_own (k := 0) (j := 0) rfl rfl rfl ?_
  | refine ix_own (k := 0) (j := 1) rfl rfl rfl ?_
  | refine ix_own (k := 0) (j := 2) rfl rfl rfl ?_
  | refine ix_own (k := 1) (j := 0) rfl rfl rfl ?_
  | refine ix_own (k := 1) (j := 1) rfl rfl rfl ?_
  | refine ix_own (k := 1) (j := 2) rfl rfl rfl ?_
  | refine ix_own (k := 2) (j := 0) rfl rfl rfl ?_
  | refine ix_own (k := 2) (j := 1) rfl rfl rfl ?_
  | refine ix_own (k := 2) (j := 2) rfl rfl rfl ?_
  | refine ix_own (k := 3) (j := 0) rfl rfl rfl ?_
  | refine ix_own (k := 3) (j := 1) rfl rfl rfl ?_
  | refine ix_own (k := 3) (j := 2) rfl rfl rfl ?_
  | refine ix_own (k := 4) (j := 0) rfl rfl rfl ?_
  | refine ix_own (k := 4) (j := 1) rfl rfl rfl ?_
  | refine ix_own (k := 4) (j := 2) rfl rfl rfl ?_
  | refine ix_own (k := 5) (j := 0) rfl rfl rfl ?_
  | refine ix_own (k := 5) (j := 1) rfl rfl rfl ?_
  | refine ix_own (k := 5) (j := 2) rfl rfl rfl ?_
  | refine ix_own (k := 6) (j := 0) rfl rfl rfl ?_
  | refine ix_own (k := 6) (j := 1) rfl rfl rfl ?_
  | refine ix_own (k := 6) (j := 2) rfl rfl rfl ?_
  | refine ix_own (k := 7) (j := 0) rfl rfl rfl ?_
  | refine ix_own (k := 7) (j := 1) rfl rfl rfl ?_
  | refine ix_own (k := 7) (j := 2) rfl rfl rfl ?_
  | refine ix_own (k := 8) (j := 0) rfl rfl rfl ?_
  | refine ix_own (k := 8) (j := 1) rfl rfl rfl ?_
  | refine ix_own (k := 8) (j := 2) rfl rfl rfl ?_
  | refine ix_own (k := 9) (j := 0) rfl rfl rfl ?_
  | refine ix_own (k := 9) (j := 1) rfl rfl rfl ?_
  | refine ix_own (k := 9) (j := 2) rfl rfl rfl ?_
  | refine ix_own (k := 10) (j := 0) rfl rfl rfl ?_
  | refine ix_own (k := 10) (j := 1) rfl rfl rfl ?_
  | refine ix_own (k := 10) (j := 2) rfl rfl rfl ?_
  | refine ix_own (k := 11) (j := 0) rfl rfl rfl ?_
  | refine ix_own (k := 11) (j := 1) rfl rfl rfl ?_
  | refine ix_own (k := 11) (j := 2) rfl rfl rfl ?_
  | refine ix_own (k := 12) (j := 0) rfl rfl rfl ?_
  | refine ix_own (k := 12) (j := 1) rfl rfl rfl ?_
  | refine ix_own (k := 12) (j := 2) rfl rfl rfl ?_
  | refine ix_own (k := 13) (j := 0) rfl rfl rfl ?_
  | refine ix_own (k := 13) (j := 1) rfl rfl rfl ?_
  | refine ix_own (k := 13) (j := 2) rfl rfl rfl ?_))
local macro_rules | `(tactic| walk_at "seti") => `(tactic| (first
  | refine ⟨0, 0, _, _, _, rfl, rfl, rfl, rfl, of_decide_eq_true rfl, ?_⟩
  | refine ⟨0, 1, _, _, _, rfl, rfl, rfl, rfl, of_decide_eq_true rfl, ?_⟩
  | refine ⟨0, 2, _, _, _, rfl, rfl, rfl, rfl, of_decide_eq_true rfl, ?_⟩
  | refine ⟨1, 0, _, _, _, rfl, rfl, rfl, rfl, of_decide_eq_true rfl, ?_⟩
  | refine ⟨1, 1, _, _, _, rfl, rfl, rfl, rfl, of_decide_eq_true rfl, ?_⟩
  | refine ⟨1, 2, _, _, _, rfl, rfl, rfl, rfl, of_decide_eq_true rfl, ?_⟩
  | refine ⟨2, 0, _, _, _, rfl, rfl, rfl, rfl, of_decide_eq_true rfl, ?_⟩
  | refine ⟨2, 1, _, _, _, rfl, rfl, rfl, rfl, of_decide_eq_true rfl, ?_⟩
  | refine ⟨2, 2, _, _, _, rfl, rfl, rfl, rfl, of_decide_eq_true rfl, ?_⟩
  | refine ⟨3, 0, _, _, _, rfl, rfl, rfl, rfl, of_decide_eq_true rfl, ?_⟩
  | refine ⟨3, 1, _, _, _, rfl, rfl, rfl, rfl, of_decide_eq_true rfl, ?_⟩
  | refine ⟨3, 2, _, _, _, rfl, rfl, rfl, rfl, of_decide_eq_true rfl, ?_⟩
  | refine ⟨4, 0, _, _, _, rfl, rfl, rfl, rfl, of_decide_eq_true rfl, ?_⟩
  | refine ⟨4, 1, _, _, _, rfl, rfl, rfl, rfl, of_decide_eq_true rfl, ?_⟩
  | refine ⟨4, 2, _, _, _, rfl, rfl, rfl, rfl, of_decide_eq_true rfl, ?_⟩
  | refine ⟨5, 0, _, _, _, rfl, rfl, rfl, rfl, of_decide_eq_true rfl, ?_⟩
  | refine ⟨5, 1, _, _, _, rfl, rfl, rfl, rfl, of_decide_eq_true rfl, ?_⟩
  | refine ⟨5, 2, _, _, _, rfl, rfl, rfl, rfl, of_decide_eq_true rfl, ?_⟩
  | refine ⟨6, 0, _, _, _, rfl, rfl, rfl, rfl, of_decide_eq_true rfl, ?_⟩
  | refine ⟨6, 1, _, _, _, rfl, rfl, rfl, rfl, of_decide_eq_true rfl, ?_⟩
  | refine ⟨6, 2, _, _, _, rfl, rfl, rfl, rfl, of_decide_eq_true rfl, ?_⟩
  | refine ⟨7, 0, _, _, _, rfl, rfl, rfl, rfl, of_decide_eq_true rfl, ?_⟩
  | refine ⟨7, 1, _, _, _, rfl, rfl, rfl, rfl, of_decide_eq_true rfl, ?_⟩
  | refine ⟨7, 2, _, _, _, rfl, rfl, rfl, rfl, of_decide_eq_true rfl, ?_⟩
  | refine ⟨8, 0, _, _, _, rfl, rfl, rfl, rfl, of_decide_eq_true rfl, ?_⟩
  | refine ⟨8, 1, _, _, _, rfl, rfl, rfl, rfl, of_decide_eq_true rfl, ?_⟩
  | refine ⟨8, 2, _, _, _, rfl, rfl, rfl, rfl, of_decide_eq_true rfl, ?_⟩
  | refine ⟨9, 0, _, _, _, rfl, rfl, rfl, rfl, of_decide_eq_true rfl, ?_⟩
  | refine ⟨9, 1, _, _, _, rfl, rfl, rfl, rfl, of_decide_eq_true rfl, ?_⟩
  | refine ⟨9, 2, _, _, _, rfl, rfl, rfl, rfl, of_decide_eq_true rfl, ?_⟩
  | refine ⟨10, 0, _, _, _, rfl, rfl, rfl, rfl, of_decide_eq_true rfl, ?_⟩
  | refine ⟨10, 1, _, _, _, rfl, rfl, rfl, rfl, of_decide_eq_true rfl, ?_⟩
  | refine ⟨10, 2, _, _, _, rfl, rfl, rfl, rfl, of_decide_eq_true rfl, ?_⟩
  | refine ⟨11, 0, _, _, _, rfl, rfl, rfl, rfl, of_decide_eq_true rfl, ?_⟩
  | refine ⟨11, 1, _, _, _, rfl, rfl, rfl, rfl, of_decide_eq_true rfl, ?_⟩
  | refine ⟨11, 2, _, _, _, rfl, rfl, rfl, rfl, of_decide_eq_true rfl, ?_⟩
  | refine ⟨12, 0, _, _, _, rfl, rfl, rfl, rfl, of_decide_eq_true rfl, ?_⟩
  | refine ⟨12, 1, _, _, _, rfl, rfl, rfl, rfl, of_decide_eq_true rfl, ?_⟩
  | refine ⟨12, 2, _, _, _, rfl, rfl, rfl, rfl, of_decide_eq_true rfl, ?_⟩
  | refine ⟨13, 0, _, _, _, rfl, rfl, rfl, rfl, of_decide_eq_true rfl, ?_⟩
  | refine ⟨13, 1, _, _, _, rfl, rfl, rfl, rfl, of_decide_eq_true rfl, ?_⟩
  | refine ⟨13, 2, _, _, _, rfl, rfl, rfl, rfl, of_decide_eq_true rfl, ?_⟩))
local macro_rules | `(tactic| walk_at "lst") => `(tactic| (first
  | refine cd_list (.inr (.inr ⟨0, _, rfl, rfl⟩)) ?_
  | refine cd_list (.inr (.inr ⟨1, _, rfl, rfl⟩)) ?_
  | refine cd_list (.inr (.inr ⟨2, _, rfl, rfl⟩)) ?_
  | refine cd_list (.inr (.inr ⟨3, _, rfl, rfl⟩)) ?_
  | refine cd_list (.inr (.inr ⟨4, _, rfl, rfl⟩)) ?_
  | refine cd_list (.inr (.inr ⟨5, _, rfl, rfl⟩)) ?_
  | refine cd_list (.inr (.inr ⟨6, _, rfl, rfl⟩)) ?_
  | refine cd_list (.inr (.inr ⟨7, _, rfl, rfl⟩)) ?_
  | refine cd_list (.inr (.inr ⟨8, _, rfl, rfl⟩)) ?_
  | refine cd_list (.inr (.inr ⟨9, _, rfl, rfl⟩)) ?_
  | refine cd_list (.inr (.inr ⟨10, _, rfl, rfl⟩)) ?_
  | refine cd_list (.inr (.inr ⟨11, _, rfl, rfl⟩)) ?_
  | refine cd_list (.inr (.inr ⟨12, _, rfl, rfl⟩)) ?_
  | refine cd_list (.inr (.inr ⟨13, _, rfl, rfl⟩)) ?_))
local macro_rules | `(tactic| walk_at "isi") => `(tactic| (first | refine cd_isi (k := true) rfl (by decide +kernel) ?_ | refine cd_isi (k := false) rfl (by decide +kernel) ?_))
local macro_rules | `(tactic| walk_at "size") => `(tactic| (first
  | exact (show 0 ≤ sizeLine by decide) | exact (show 1 ≤ sizeLine by decide) | exact (show 2 ≤ sizeLine by decide) | exact (show 3 ≤ sizeLine by decide) | exact (show 4 ≤ sizeLine by decide) | exact (show 5 ≤ sizeLine by decide) | exact (show 6 ≤ sizeLine by decide) | exact (of_decide_eq_true rfl) | exact (Nat.le_of_ble_eq_true rfl)))

section
variable {P : Program} {w : World} {K : PySem.W.Frag} {mg : Str → Option Value} {base : Heap}
/-! ### texts of rooms and marks -/
/-- names without blanks, numbers of at most eighteen figures -/
def Sm (n : Int) : Prop := n.natAbs < 10 ^ 18
theorem sm_len {n : Int} (h : Sm n) : (isS n).length ≤ 19 := isS_len (k := 18) (by decide) h
theorem sm_log {n : Int} (h : Sm n) : n.natAbs.log2 < 1920 := isS_log (Nat.lt_trans h (by decide +kernel))
def roomT (bd : Bool) (nm : Str) (a b c e : Int) : Str := spJ [if bd then "barred" else "room", nm, isS a, isS b, isS c, isS e]
def markT (nm : Str) (a b c e bl : Int) : Str := spJ ["mark", nm, isS a, isS b, isS c, isS e, isS bl]
def S_roomStr (C : Addr) : DS := fun ds M Φ => ∃ (nm : Str) (a b c e : Int) (bd : Bool), ds = [.obj C (roomF nm a b c e "barred" (.bl bd))] ∧ nm.length ≤ 1000 ∧ Sm a ∧ Sm b ∧ Sm c ∧ Sm e ∧ Φ (.str (roomT bd nm a b c e)) M
def S_markStr (C : Addr) : DS := fun ds M Φ => ∃ (nm : Str) (a b c e bl : Int), ds = [.obj C (roomF nm a b c e "blur" (.int bl))] ∧ nm.length ≤ 1000 ∧ Sm a ∧ Sm b ∧ Sm c ∧ Sm e ∧ Sm bl ∧ Φ (.str (markT nm a b c e bl)) M
theorem room_is {w nm : Str} {a b c e : Int} : ((((((((((Str.empty ++ w) ++ " ") ++ nm) ++ " ") ++ isS a) ++ " ") ++ isS b) ++ " ") ++ isS c) ++ " ") ++ isS e = spJ [w, nm, isS a, isS b, isS c, isS e] := by
  rw [empA, spJ_two, spJ_two, spJ_two, spJ_two, spJ_two, spJ_one]
  simp only [appA]
theorem mark_is {nm : Str} {a b c e f : Int} : ((((((((((Str.empty ++ "mark ") ++ nm) ++ " ") ++ isS a) ++ " ") ++ isS b) ++ " ") ++ isS c) ++ " ") ++ isS e) ++ " " ++ isS f = spJ ["mark", nm, isS a, isS b, isS c, isS e, isS f] := by
  rw [empA, spJ_two, spJ_two, spJ_two, spJ_two, spJ_two, spJ_two, spJ_one, show ("mark " : Str) = "mark" ++ " " by decide +kernel]
  simp only [appA]
theorem sl1 : (" " : Str).length = 1 := by decide +kernel
theorem sl0 : Str.empty.length = 0 := rfl
theorem sl_mark : ("mark " : Str).length = 5 := by decide +kernel
theorem sl_room : ("room" : Str).length = 4 := by decide +kernel
theorem sl_barred : ("barred" : Str).length = 6 := by decide +kernel
def noSp (z : Str) : Prop := 32 ∉ TL.tl z
theorem nameOk_sp {nm : Str} (h : nameOk nm = true) : noSp nm := by
  unfold nameOk at h
  simp only [Bool.and_eq_true] at h
  intro hm
  have h2 := List.all_eq_true.mp h.2.2.2 32 hm
  exact absurd h2 (by decide +kernel)
theorem parts_sp {w nm : Str} {a b c e : Int} (hw : noSp w) (hn : noSp nm) : ∀ p, p ∈ [w, nm, isS a, isS b, isS c, isS e] → 32 ∉ TL.tl p := by
  intro p hp
  simp only [List.mem_cons, List.not_mem_nil, or_false] at hp
  rcases hp with rfl | rfl | rfl | rfl | rfl | rfl
  · exact hw
  · exact hn
  all_goals exact isS_sp
theorem word_sp {bd : Bool} : noSp (if bd then "barred" else "room") := by
  cases bd <;> (unfold noSp; decide +kernel)
theorem mark_sp : noSp "mark" := by unfold noSp; decide +kernel
theorem roomT_inj {bd bd' : Bool} {nm nm' : Str} {a b c e a' b' c' e' : Int} (hn : noSp nm) (hn' : noSp nm') : roomT bd nm a b c e = roomT bd' nm' a' b' c' e' ↔ (bd = bd' ∧ nm = nm' ∧ a = a' ∧ b = b' ∧ c = c' ∧ e = e') := by
  constructor
  · intro h
    have h := spJ_inj (by simp) (by simp) (parts_sp word_sp hn) (parts_sp word_sp hn') h
    simp only [List.cons.injEq, and_true] at h
    obtain ⟨h1, h2, h3, h4, h5, h6⟩ := h
    refine ⟨?_, h2, isS_inj h3, isS_inj h4, isS_inj h5, isS_inj h6⟩
    cases bd <;> cases bd' <;> first | rfl | (exact absurd h1 (by decide +kernel))
  · rintro ⟨rfl, rfl, rfl, rfl, rfl, rfl⟩
    rfl
theorem parts_sp7 {nm : Str} {a b c e f : Int} (hn : noSp nm) : ∀ p, p ∈ [("mark" : Str), nm, isS a, isS b, isS c, isS e, isS f] → 32 ∉ TL.tl p := by
  intro p hp
  simp only [List.mem_cons, List.not_mem_nil, or_false] at hp
  rcases hp with rfl | rfl | rfl | rfl | rfl | rfl | rfl
  · exact mark_sp
  · exact hn
  all_goals exact isS_sp
theorem markT_inj {nm nm' : Str} {a b c e f a' b' c' e' f' : Int} (hn : noSp nm) (hn' : noSp nm') : markT nm a b c e f = markT nm' a' b' c' e' f' ↔ (nm = nm' ∧ a = a' ∧ b = b' ∧ c = c' ∧ e = e' ∧ f = f') := by
  constructor
  · intro h
    have h := spJ_inj (by simp) (by simp) (parts_sp7 hn) (parts_sp7 hn') h
    simp only [List.cons.injEq, and_true, true_and] at h
    obtain ⟨h2, h3, h4, h5, h6, h7⟩ := h
    exact ⟨h2, isS_inj h3, isS_inj h4, isS_inj h5, isS_inj h6, isS_inj h7⟩
  · rintro ⟨rfl, rfl, rfl, rfl, rfl, rfl⟩
    rfl
/-- == of two things with texts -/
def S_eqR (C : Addr) (Sx : DS) : DS := fun ds M Φ => ∃ (d d' : D) (z z' : Str) (fs gs : List (Str × D)), ds = [d, d'] ∧ d = .obj C fs ∧ d' = .obj C gs ∧ (∀ M Φ, Φ (.str z) M → Sx [d] M Φ) ∧ (∀ M Φ, Φ (.str z') M → Sx [d'] M Φ) ∧ Φ (.bl (decide (z = z'))) M
def S_eqRT (K : PySem.W.Frag) (C : Addr) : DS := fun ds M Φ => ∃ (d : D) (t : String) (fs : List (Str × D)), ds = [.obj C fs, d] ∧ tyD d = some t ∧ PySem.W.kitOne K (.type t) (.ref C) = some false ∧ Φ (.bl false) M
def S_eqRO (K : PySem.W.Frag) (C : Addr) : DS := fun ds M Φ => ∃ (C' : Addr) (fs gs : List (Str × D)), ds = [.obj C fs, .obj C' gs] ∧ IsF K C' ∧ PySem.W.kitOne K (.ref C') (.ref C) = some false ∧ Φ (.bl false) M
abbrev s_Room_str : Stmt := inClass (top 21) 4
theorem sc_Room_str : FnScope ["self", "word"] ["self"] (defScope s_Room_str) := ⟨rfl, rfl, rfl, by decide +kernel, rfl, by decide +kernel, by decide +kernel⟩
theorem ok_Room_str {f : Addr} {fd : FuncData} (F : FunD K "__str__" "Room.__str__" (defArgs s_Room_str) (defBody s_Room_str) (defScope s_Room_str) [] [] f fd) {C : Addr} (hRm : RmC K C "barred") : FnOk P w K mg base CX0 1 f fd ["self"] (spOf K (S_roomStr C)) := by
  refine fn_data (k := 0) F sc_Room_str (fun ds M Φ h => ?_) (fun cdv A outer s H E ds M Φ hr h => ?_)
  · obtain ⟨nm, a, b, c, e, bd, rfl, hn, ha, hb9, hc, he, q⟩ := h
    all_goals rfl
  · obtain ⟨nm, a, b, c, e, bd, rfl, hn, ha, hb9, hc, he, q⟩ := h
    have l1 : (Str.ofString (toString a)).length ≤ 19 := sm_len ha
    have l2 : (Str.ofString (toString b)).length ≤ 19 := sm_len hb9
    have l3 : (Str.ofString (toString c)).length ≤ 19 := sm_len hc
    have l4 : (Str.ofString (toString e)).length ≤ 19 := sm_len he
    have h5 : sizeLine = 2 ^ 24 := rfl
    have h6 := sl1
    have h7 := sl0
    cases bd
    · skip
      refine ws_set 1 sc_Room_str.nd ?_
      refine we_if ?_
      refine wt_val ?_ (by intro _; rfl)
      refine we_attr ?_ (by rfl)
      refine wv 0 rfl ?_
      refine at_fld (.inl rfl) (lk_there (by decide) (lk_there (by decide) (lk_there (by decide) lk_here))) hRm.cls hRm.nb ?_
      refine tr_bl ?_
      refine ⟨fun hb => ?_, fun hb => ?_⟩
      · walk_at "dead"
      · walk_at "tidy"
        refine we_str ?_
        refine ws_ret ?_
        refine we_joined ?_
        refine wj_cons ?_
        refine we_fmt ?_
        refine wv 1 rfl ?_
        refine .inl ⟨_, rfl, (by first | (have h9 := sl_room; omega) | (have h9 := sl_barred; omega)), ?_⟩
        refine ⟨_, rfl, (by simp only [slA]; first | (have h9 := sl_room; omega) | (have h9 := sl_barred; omega)), ?_⟩
        refine wj_cons ?_
        refine we_str ?_
        refine ⟨_, rfl, (by simp only [slA]; first | (have h9 := sl_room; omega) | (have h9 := sl_barred; omega)), ?_⟩
        refine wj_cons ?_
        refine we_fmt ?_
        refine we_attr ?_ (by rfl)
        refine wv 0 rfl ?_
        refine at_fld (.inl rfl) lk_here hRm.cls hRm.nn ?_
        refine .inl ⟨_, rfl, (by omega), ?_⟩
        refine ⟨_, rfl, (by simp only [slA]; first | (have h9 := sl_room; omega) | (have h9 := sl_barred; omega)), ?_⟩
        refine wj_cons ?_
        refine we_str ?_
        refine ⟨_, rfl, (by simp only [slA]; first | (have h9 := sl_room; omega) | (have h9 := sl_barred; omega)), ?_⟩
        refine wj_cons ?_
        refine we_fmt ?_
        refine we_ix ?_ (fun _ _ => rfl)
        refine we_attr ?_ (by rfl)
        refine wv 0 rfl ?_
        refine at_fld (.inl rfl) (lk_there (by decide) lk_here) hRm.cls hRm.nl ?_
        refine we_int ?_
        refine ix_tup (j := 0) rfl rfl ?_
        refine .inr ⟨_, rfl, (sm_log ha), ?_⟩
        refine ⟨_, rfl, (by simp only [slA]; first | (have h9 := sl_room; omega) | (have h9 := sl_barred; omega)), ?_⟩
        refine wj_cons ?_
        refine we_str ?_
        refine ⟨_, rfl, (by simp only [slA]; first | (have h9 := sl_room; omega) | (have h9 := sl_barred; omega)), ?_⟩
        refine wj_cons ?_
        refine we_fmt ?_
        refine we_ix ?_ (fun _ _ => rfl)
        refine we_attr ?_ (by rfl)
        refine wv 0 rfl ?_
        refine at_fld (.inl rfl) (lk_there (by decide) lk_here) hRm.cls hRm.nl ?_
        refine we_int ?_
        refine ix_tup (j := 1) rfl rfl ?_
        refine .inr ⟨_, rfl, (sm_log hb9), ?_⟩
        refine ⟨_, rfl, (by simp only [slA]; first | (have h9 := sl_room; omega) | (have h9 := sl_barred; omega)), ?_⟩
        refine wj_cons ?_
        refine we_str ?_
        refine ⟨_, rfl, (by simp only [slA]; first | (have h9 := sl_room; omega) | (have h9 := sl_barred; omega)), ?_⟩
        refine wj_cons ?_
        refine we_fmt ?_
        refine we_ix ?_ (fun _ _ => rfl)
        refine we_attr ?_ (by rfl)
        refine wv 0 rfl ?_
        refine at_fld (.inl rfl) (lk_there (by decide) (lk_there (by decide) lk_here)) hRm.cls hRm.nh ?_
        refine we_int ?_
        refine ix_tup (j := 0) rfl rfl ?_
        refine .inr ⟨_, rfl, (sm_log hc), ?_⟩
        refine ⟨_, rfl, (by simp only [slA]; first | (have h9 := sl_room; omega) | (have h9 := sl_barred; omega)), ?_⟩
        refine wj_cons ?_
        refine we_str ?_
        refine ⟨_, rfl, (by simp only [slA]; first | (have h9 := sl_room; omega) | (have h9 := sl_barred; omega)), ?_⟩
        refine wj_cons ?_
        refine we_fmt ?_
        refine we_ix ?_ (fun _ _ => rfl)
        refine we_attr ?_ (by rfl)
        refine wv 0 rfl ?_
        refine at_fld (.inl rfl) (lk_there (by decide) (lk_there (by decide) lk_here)) hRm.cls hRm.nh ?_
        refine we_int ?_
        refine ix_tup (j := 1) rfl rfl ?_
        refine .inr ⟨_, rfl, (sm_log he), ?_⟩
        refine ⟨_, rfl, (by simp only [slA]; first | (have h9 := sl_room; omega) | (have h9 := sl_barred; omega)), ?_⟩
        refine wj_nil ?_
        rw [show Str.ofString (toString a) = isS a from rfl, show Str.ofString (toString b) = isS b from rfl, show Str.ofString (toString c) = isS c from rfl, show Str.ofString (toString e) = isS e from rfl, room_is]
        exact q
    · skip
      refine ws_set 1 sc_Room_str.nd ?_
      refine we_if ?_
      refine wt_val ?_ (by intro _; rfl)
      refine we_attr ?_ (by rfl)
      refine wv 0 rfl ?_
      refine at_fld (.inl rfl) (lk_there (by decide) (lk_there (by decide) (lk_there (by decide) lk_here))) hRm.cls hRm.nb ?_
      refine tr_bl ?_
      refine ⟨fun hb => ?_, fun hb => ?_⟩
      · walk_at "tidy"
        refine we_str ?_
        refine ws_ret ?_
        refine we_joined ?_
        refine wj_cons ?_
        refine we_fmt ?_
        refine wv 1 rfl ?_
        refine .inl ⟨_, rfl, (by first | (have h9 := sl_room; omega) | (have h9 := sl_barred; omega)), ?_⟩
        refine ⟨_, rfl, (by simp only [slA]; first | (have h9 := sl_room; omega) | (have h9 := sl_barred; omega)), ?_⟩
        refine wj_cons ?_
        refine we_str ?_
        refine ⟨_, rfl, (by simp only [slA]; first | (have h9 := sl_room; omega) | (have h9 := sl_barred; omega)), ?_⟩
        refine wj_cons ?_
        refine we_fmt ?_
        refine we_attr ?_ (by rfl)
        refine wv 0 rfl ?_
        refine at_fld (.inl rfl) lk_here hRm.cls hRm.nn ?_
        refine .inl ⟨_, rfl, (by omega), ?_⟩
        refine ⟨_, rfl, (by simp only [slA]; first | (have h9 := sl_room; omega) | (have h9 := sl_barred; omega)), ?_⟩
        refine wj_cons ?_
        refine we_str ?_
        refine ⟨_, rfl, (by simp only [slA]; first | (have h9 := sl_room; omega) | (have h9 := sl_barred; omega)), ?_⟩
        refine wj_cons ?_
        refine we_fmt ?_
        refine we_ix ?_ (fun _ _ => rfl)
        refine we_attr ?_ (by rfl)
        refine wv 0 rfl ?_
        refine at_fld (.inl rfl) (lk_there (by decide) lk_here) hRm.cls hRm.nl ?_
        refine we_int ?_
        refine ix_tup (j := 0) rfl rfl ?_
        refine .inr ⟨_, rfl, (sm_log ha), ?_⟩
        refine ⟨_, rfl, (by simp only [slA]; first | (have h9 := sl_room; omega) | (have h9 := sl_barred; omega)), ?_⟩
        refine wj_cons ?_
        refine we_str ?_
        refine ⟨_, rfl, (by simp only [slA]; first | (have h9 := sl_room; omega) | (have h9 := sl_barred; omega)), ?_⟩
        refine wj_cons ?_
        refine we_fmt ?_
        refine we_ix ?_ (fun _ _ => rfl)
        refine we_attr ?_ (by rfl)
        refine wv 0 rfl ?_
        refine at_fld (.inl rfl) (lk_there (by decide) lk_here) hRm.cls hRm.nl ?_
        refine we_int ?_
        refine ix_tup (j := 1) rfl rfl ?_
        refine .inr ⟨_, rfl, (sm_log hb9), ?_⟩
        refine ⟨_, rfl, (by simp only [slA]; first | (have h9 := sl_room; omega) | (have h9 := sl_barred; omega)), ?_⟩
        refine wj_cons ?_
        refine we_str ?_
        refine ⟨_, rfl, (by simp only [slA]; first | (have h9 := sl_room; omega) | (have h9 := sl_barred; omega)), ?_⟩
        refine wj_cons ?_
        refine we_fmt ?_
        refine we_ix ?_ (fun _ _ => rfl)
        refine we_attr ?_ (by rfl)
        refine wv 0 rfl ?_
        refine at_fld (.inl rfl) (lk_there (by decide) (lk_there (by decide) lk_here)) hRm.cls hRm.nh ?_
        refine we_int ?_
        refine ix_tup (j := 0) rfl rfl ?_
        refine .inr ⟨_, rfl, (sm_log hc), ?_⟩
        refine ⟨_, rfl, (by simp only [slA]; first | (have h9 := sl_room; omega) | (have h9 := sl_barred; omega)), ?_⟩
        refine wj_cons ?_
        refine we_str ?_
        refine ⟨_, rfl, (by simp only [slA]; first | (have h9 := sl_room; omega) | (have h9 := sl_barred; omega)), ?_⟩
        refine wj_cons ?_
        refine we_fmt ?_
        refine we_ix ?_ (fun _ _ => rfl)
        refine we_attr ?_ (by rfl)
        refine wv 0 rfl ?_
        refine at_fld (.inl rfl) (lk_there (by decide) (lk_there (by decide) lk_here)) hRm.cls hRm.nh ?_
        refine we_int ?_
        refine ix_tup (j := 1) rfl rfl ?_
        refine .inr ⟨_, rfl, (sm_log he), ?_⟩
        refine ⟨_, rfl, (by simp only [slA]; first | (have h9 := sl_room; omega) | (have h9 := sl_barred; omega)), ?_⟩
        refine wj_nil ?_
        rw [show Str.ofString (toString a) = isS a from rfl, show Str.ofString (toString b) = isS b from rfl, show Str.ofString (toString c) = isS c from rfl, show Str.ofString (toString e) = isS e from rfl, room_is]
        exact q
      · walk_at "dead"
abbrev s_Mark_str : Stmt := inClass (top 22) 4
theorem sc_Mark_str : FnScope ["self"] ["self"] (defScope s_Mark_str) := ⟨rfl, rfl, rfl, by decide +kernel, rfl, by decide +kernel, by decide +kernel⟩
theorem ok_Mark_str {f : Addr} {fd : FuncData} (F : FunD K "__str__" "Mark.__str__" (defArgs s_Mark_str) (defBody s_Mark_str) (defScope s_Mark_str) [] [] f fd) {C : Addr} (hRm : RmC K C "blur") : FnOk P w K mg base CX0 1 f fd ["self"] (spOf K (S_markStr C)) := by
  refine fn_data (k := 0) F sc_Mark_str (fun ds M Φ h => ?_) (fun cdv A outer s H E ds M Φ hr h => ?_)
  · obtain ⟨nm, a, b, c, e, bl, rfl, hn, ha, hb9, hc, he, hf, q⟩ := h
    all_goals rfl
  · obtain ⟨nm, a, b, c, e, bl, rfl, hn, ha, hb9, hc, he, hf, q⟩ := h
    have l1 : (Str.ofString (toString a)).length ≤ 19 := sm_len ha
    have l2 : (Str.ofString (toString b)).length ≤ 19 := sm_len hb9
    have l3 : (Str.ofString (toString c)).length ≤ 19 := sm_len hc
    have l4 : (Str.ofString (toString e)).length ≤ 19 := sm_len he
    have h5 : sizeLine = 2 ^ 24 := rfl
    have h6 := sl1
    have h7 := sl0
    have l5 : (Str.ofString (toString bl)).length ≤ 19 := sm_len hf
    have h8 := sl_mark
    refine ws_ret ?_
    refine we_joined ?_
    refine wj_cons ?_
    refine we_str ?_
    refine ⟨_, rfl, (by simp only [slA]; omega), ?_⟩
    refine wj_cons ?_
    refine we_fmt ?_
    refine we_attr ?_ (by rfl)
    refine wv 0 rfl ?_
    refine at_fld (.inl rfl) lk_here hRm.cls hRm.nn ?_
    refine .inl ⟨_, rfl, (by omega), ?_⟩
    refine ⟨_, rfl, (by simp only [slA]; omega), ?_⟩
    refine wj_cons ?_
    refine we_str ?_
    refine ⟨_, rfl, (by simp only [slA]; omega), ?_⟩
    refine wj_cons ?_
    refine we_fmt ?_
    refine we_ix ?_ (fun _ _ => rfl)
    refine we_attr ?_ (by rfl)
    refine wv 0 rfl ?_
    refine at_fld (.inl rfl) (lk_there (by decide) lk_here) hRm.cls hRm.nl ?_
    refine we_int ?_
    refine ix_tup (j := 0) rfl rfl ?_
    refine .inr ⟨_, rfl, (sm_log ha), ?_⟩
    refine ⟨_, rfl, (by simp only [slA]; omega), ?_⟩
    refine wj_cons ?_
    refine we_str ?_
    refine ⟨_, rfl, (by simp only [slA]; omega), ?_⟩
    refine wj_cons ?_
    refine we_fmt ?_
    refine we_ix ?_ (fun _ _ => rfl)
    refine we_attr ?_ (by rfl)
    refine wv 0 rfl ?_
    refine at_fld (.inl rfl) (lk_there (by decide) lk_here) hRm.cls hRm.nl ?_
    refine we_int ?_
    refine ix_tup (j := 1) rfl rfl ?_
    refine .inr ⟨_, rfl, (sm_log hb9), ?_⟩
    refine ⟨_, rfl, (by simp only [slA]; omega), ?_⟩
    refine wj_cons ?_
    refine we_str ?_
    refine ⟨_, rfl, (by simp only [slA]; omega), ?_⟩
    refine wj_cons ?_
    refine we_fmt ?_
    refine we_ix ?_ (fun _ _ => rfl)
    refine we_attr ?_ (by rfl)
    refine wv 0 rfl ?_
    refine at_fld (.inl rfl) (lk_there (by decide) (lk_there (by decide) lk_here)) hRm.cls hRm.nh ?_
    refine we_int ?_
    refine ix_tup (j := 0) rfl rfl ?_
    refine .inr ⟨_, rfl, (sm_log hc), ?_⟩
    refine ⟨_, rfl, (by simp only [slA]; omega), ?_⟩
    refine wj_cons ?_
    refine we_str ?_
    refine ⟨_, rfl, (by simp only [slA]; omega), ?_⟩
    refine wj_cons ?_
    refine we_fmt ?_
    refine we_ix ?_ (fun _ _ => rfl)
    refine we_attr ?_ (by rfl)
    refine wv 0 rfl ?_
    refine at_fld (.inl rfl) (lk_there (by decide) (lk_there (by decide) lk_here)) hRm.cls hRm.nh ?_
    refine we_int ?_
    refine ix_tup (j := 1) rfl rfl ?_
    refine .inr ⟨_, rfl, (sm_log he), ?_⟩
    refine ⟨_, rfl, (by simp only [slA]; omega), ?_⟩
    refine wj_cons ?_
    refine we_str ?_
    refine ⟨_, rfl, (by simp only [slA]; omega), ?_⟩
    refine wj_cons ?_
    refine we_fmt ?_
    refine we_attr ?_ (by rfl)
    refine wv 0 rfl ?_
    refine at_fld (.inl rfl) (lk_there (by decide) (lk_there (by decide) (lk_there (by decide) lk_here))) hRm.cls hRm.nb ?_
    refine .inr ⟨_, rfl, (sm_log hf), ?_⟩
    refine ⟨_, rfl, (by simp only [slA]; omega), ?_⟩
    refine wj_nil ?_
    rw [show Str.ofString (toString a) = isS a from rfl, show Str.ofString (toString b) = isS b from rfl, show Str.ofString (toString c) = isS c from rfl, show Str.ofString (toString e) = isS e from rfl, show Str.ofString (toString bl) = isS bl from rfl, mark_is]
    exact q
abbrev s_Room_eq : Stmt := inClass (top 21) 3
theorem sc_Room_eq : FnScope ["self", "other"] ["self", "other"] (defScope s_Room_eq) := ⟨rfl, rfl, rfl, by decide +kernel, rfl, by decide +kernel, by decide +kernel⟩
theorem ok_Room_eq {f : Addr} {fd : FuncData} (F : FunD K "__eq__" "Room.__eq__" (defArgs s_Room_eq) (defBody s_Room_eq) (defScope s_Room_eq) [] [] f fd) (B : Bf mg) {C : Addr} (hmC : mg "Room" = some (.ref C)) (hI : IsF K C) (hStr : HasMe P w K mg base 1 C "__str__" (S_roomStr C)) : FnOk P w K mg base CX0 4 f fd ["self", "other"] (spOf K (S_eqR C (S_roomStr C))) := by
  refine fn_data (k := 3) F sc_Room_eq (fun ds M Φ h => ?_) (fun cdv A outer s H E ds M Φ hr h => ?_)
  · obtain ⟨d, d', z, z', fs, gs, rfl, rfl, rfl, hz, hz', q⟩ := h
    all_goals rfl
  · obtain ⟨d, d', z, z', fs, gs, rfl, rfl, rfl, hz, hz', q⟩ := h
    refine ws_ret ?_
    refine we_and ?_
    refine wcB B.isi boot_isinstance ?_
    refine wa_cons ?_
    refine wv 1 rfl ?_
    refine wa_cons ?_
    refine wgl hmC ?_
    refine wa_nil ?_
    refine cd_isiC (.inl rfl) hI kit_self ?_
    refine ⟨_, rfl, fun hb => ?_, fun hb => ?_⟩
    · walk_at "tidy"
      refine we_one ?_
      refine we_cmp ?_ (nomark _)
      refine wcT B.str boot_str ?_
      refine wa_cons ?_
      refine wv 0 rfl ?_
      refine wa_nil ?_
      refine cd_strO hStr (hr.mono (by decide)) (.inl rfl) (hz _ _ ⟨_, rfl, ?_⟩)
      refine wcT B.str boot_str ?_
      refine wa_cons ?_
      refine wv 1 rfl ?_
      refine wa_nil ?_
      refine cd_strO hStr (hr.mono (by decide)) (.inl rfl) (hz' _ _ ⟨_, rfl, ?_⟩)
      refine od_eqS ?_
      exact q
    · walk_at "dead"
theorem ok_Room_eqT {f : Addr} {fd : FuncData} (F : FunD K "__eq__" "Room.__eq__" (defArgs s_Room_eq) (defBody s_Room_eq) (defScope s_Room_eq) [] [] f fd) (B : Bf mg) {C : Addr} (hmC : mg "Room" = some (.ref C)) : FnOk P w K mg base CX0 1 f fd ["self", "other"] (spOf K (S_eqRT K C)) := by
  refine fn_data (k := 0) F sc_Room_eq (fun ds M Φ h => ?_) (fun cdv A outer s H E ds M Φ hr h => ?_)
  · obtain ⟨d, t, fs, rfl, ht, hk, q⟩ := h
    all_goals rfl
  · obtain ⟨d, t, fs, rfl, ht, hk, q⟩ := h
    refine ws_ret ?_
    refine we_and ?_
    refine wcB B.isi boot_isinstance ?_
    refine wa_cons ?_
    refine wv 1 rfl ?_
    refine wa_cons ?_
    refine wgl hmC ?_
    refine wa_nil ?_
    refine cd_isiTC ht hk ?_
    refine ⟨_, rfl, fun hb => ?_, fun hb => ?_⟩
    · walk_at "dead"
    · walk_at "tidy"
      exact q
theorem ok_Room_eqO {f : Addr} {fd : FuncData} (F : FunD K "__eq__" "Room.__eq__" (defArgs s_Room_eq) (defBody s_Room_eq) (defScope s_Room_eq) [] [] f fd) (B : Bf mg) {C : Addr} (hmC : mg "Room" = some (.ref C)) : FnOk P w K mg base CX0 1 f fd ["self", "other"] (spOf K (S_eqRO K C)) := by
  refine fn_data (k := 0) F sc_Room_eq (fun ds M Φ h => ?_) (fun cdv A outer s H E ds M Φ hr h => ?_)
  · obtain ⟨C', fs, gs, rfl, hI, hk, q⟩ := h
    all_goals rfl
  · obtain ⟨C', fs, gs, rfl, hI, hk, q⟩ := h
    refine ws_ret ?_
    refine we_and ?_
    refine wcB B.isi boot_isinstance ?_
    refine wa_cons ?_
    refine wv 1 rfl ?_
    refine wa_cons ?_
    refine wgl hmC ?_
    refine wa_nil ?_
    refine cd_isiC (.inl rfl) hI hk ?_
    refine ⟨_, rfl, fun hb => ?_, fun hb => ?_⟩
    · walk_at "dead"
    · walk_at "tidy"
      exact q
abbrev s_Mark_eq : Stmt := inClass (top 22) 3
theorem sc_Mark_eq : FnScope ["self", "other"] ["self", "other"] (defScope s_Mark_eq) := ⟨rfl, rfl, rfl, by decide +kernel, rfl, by decide +kernel, by decide +kernel⟩
theorem ok_Mark_eq {f : Addr} {fd : FuncData} (F : FunD K "__eq__" "Mark.__eq__" (defArgs s_Mark_eq) (defBody s_Mark_eq) (defScope s_Mark_eq) [] [] f fd) (B : Bf mg) {C : Addr} (hmC : mg "Mark" = some (.ref C)) (hI : IsF K C) (hStr : HasMe P w K mg base 1 C "__str__" (S_markStr C)) : FnOk P w K mg base CX0 4 f fd ["self", "other"] (spOf K (S_eqR C (S_markStr C))) := by
  refine fn_data (k := 3) F sc_Mark_eq (fun ds M Φ h => ?_) (fun cdv A outer s H E ds M Φ hr h => ?_)
  · obtain ⟨d, d', z, z', fs, gs, rfl, rfl, rfl, hz, hz', q⟩ := h
    all_goals rfl
  · obtain ⟨d, d', z, z', fs, gs, rfl, rfl, rfl, hz, hz', q⟩ := h
    refine ws_ret ?_
    refine we_and ?_
    refine wcB B.isi boot_isinstance ?_
    refine wa_cons ?_
    refine wv 1 rfl ?_
    refine wa_cons ?_
    refine wgl hmC ?_
    refine wa_nil ?_
    refine cd_isiC (.inl rfl) hI kit_self ?_
    refine ⟨_, rfl, fun hb => ?_, fun hb => ?_⟩
    · walk_at "tidy"
      refine we_one ?_
      refine we_cmp ?_ (nomark _)
      refine wcT B.str boot_str ?_
      refine wa_cons ?_
      refine wv 0 rfl ?_
      refine wa_nil ?_
      refine cd_strO hStr (hr.mono (by decide)) (.inl rfl) (hz _ _ ⟨_, rfl, ?_⟩)
      refine wcT B.str boot_str ?_
      refine wa_cons ?_
      refine wv 1 rfl ?_
      refine wa_nil ?_
      refine cd_strO hStr (hr.mono (by decide)) (.inl rfl) (hz' _ _ ⟨_, rfl, ?_⟩)
      refine od_eqS ?_
      exact q
    · walk_at "dead"
theorem ok_Mark_eqT {f : Addr} {fd : FuncData} (F : FunD K "__eq__" "Mark.__eq__" (defArgs s_Mark_eq) (defBody s_Mark_eq) (defScope s_Mark_eq) [] [] f fd) (B : Bf mg) {C : Addr} (hmC : mg "Mark" = some (.ref C)) : FnOk P w K mg base CX0 1 f fd ["self", "other"] (spOf K (S_eqRT K C)) := by
  refine fn_data (k := 0) F sc_Mark_eq (fun ds M Φ h => ?_) (fun cdv A outer s H E ds M Φ hr h => ?_)
  · obtain ⟨d, t, fs, rfl, ht, hk, q⟩ := h
    all_goals rfl
  · obtain ⟨d, t, fs, rfl, ht, hk, q⟩ := h
    refine ws_ret ?_
    refine we_and ?_
    refine wcB B.isi boot_isinstance ?_
    refine wa_cons ?_
    refine wv 1 rfl ?_
    refine wa_cons ?_
    refine wgl hmC ?_
    refine wa_nil ?_
    refine cd_isiTC ht hk ?_
    refine ⟨_, rfl, fun hb => ?_, fun hb => ?_⟩
    · walk_at "dead"
    · walk_at "tidy"
      exact q
theorem ok_Mark_eqO {f : Addr} {fd : FuncData} (F : FunD K "__eq__" "Mark.__eq__" (defArgs s_Mark_eq) (defBody s_Mark_eq) (defScope s_Mark_eq) [] [] f fd) (B : Bf mg) {C : Addr} (hmC : mg "Mark" = some (.ref C)) : FnOk P w K mg base CX0 1 f fd ["self", "other"] (spOf K (S_eqRO K C)) := by
  refine fn_data (k := 0) F sc_Mark_eq (fun ds M Φ h => ?_) (fun cdv A outer s H E ds M Φ hr h => ?_)
  · obtain ⟨C', fs, gs, rfl, hI, hk, q⟩ := h
    all_goals rfl
  · obtain ⟨C', fs, gs, rfl, hI, hk, q⟩ := h
    refine ws_ret ?_
    refine we_and ?_
    refine wcB B.isi boot_isinstance ?_
    refine wa_cons ?_
    refine wv 1 rfl ?_
    refine wa_cons ?_
    refine wgl hmC ?_
    refine wa_nil ?_
    refine cd_isiC (.inl rfl) hI hk ?_
    refine ⟨_, rfl, fun hb => ?_, fun hb => ?_⟩
    · walk_at "dead"
    · walk_at "tidy"
      exact q
end
end Sl57

set_option Elab.async false
set_option linter.all false
set_option maxRecDepth 100000
set_option maxHeartbeats 4000000

namespace Sl57
open PySem PySem.Spec PyProof.Rows L2 Dt
set_option hygiene false
local macro_rules | `(tactic| walk_at "op") => `(tactic| (first
  | refine od_add ?_ | refine od_sub ?_ | refine od_lt ?_ | refine od_le ?_ | refine od_gt ?_ | refine od_ge ?_ | refine od_eq ?_ | refine od_ne ?_ | refine od_is ?_ | refine od_isn ?_
  | refine od_eqS ?_ | refine od_neS ?_ | refine od_eqB ?_ | refine od_neB ?_))
local macro_rules | `(tactic| walk_at "dead") => `(tactic| (first
  | (cases hb; done)
  | (exact absurd (show false = true from hb) (by decide))
  | (exact absurd (show true = false from hb) (by decide))
  | (exact absurd hb (by decide))
  | (exfalso; simp only [decide_eq_true_eq, decide_eq_false_iff_not, Bool.not_eq_true', Bool.not_eq_false'] at hb; omega)))
local macro_rules | `(tactic| walk_at "tidy") => `(tactic| (try simp only [decide_eq_true_eq, decide_eq_false_iff_not, Bool.not_eq_true', Bool.not_eq_false'] at hb))
local macro_rules | `(tactic| walk_at "truth") => `(tactic| (first | refine tr_bl ?_ | refine tr_lst ?_ | refine tr_tup ?_ | refine tr_non ?_ | refine tr_int ?_))
local macro_rules | `(tactic| walk_at "ix") => `(tactic| (first
  | refine ix_tup (j := 0) rfl rfl ?_ | refine ix_tup (j := 1) rfl rfl ?_ | refine ix_tup (j := 2) rfl rfl ?_
  | refine ix_lst (j := 0) rfl rfl ?_ | refine ix_lst (j := 1) rfl rfl ?_ | refine ix_lst (j := 2) rfl rfl ?_
  | refine ix_own (k := 0) (j := 0) rfl rfl rfl ?_
  | refine ix_own (k := 0) (j := 1) rfl rfl rfl ?_
  | refine ix_own (k := 0) (j := 2) rfl rfl rfl ?_
  | refine ix_own (k := 1) (j := 0) rfl rfl rfl ?_
  | refine ix_own (k := 1) (j := 1) rfl rfl rfl ?_
  | refine ix_own (k := 1) (j := 2) rfl rfl rfl ?_
  | refine ix_own (k := 2) (j := 0) rfl rfl rfl ?_
  | refine ix_own (k := 2) (j := 1) rfl rfl rfl ?_
  | refine ix_own (k := 2) (j := 2) rfl rfl rfl ?_
  | refine ix_own (k := 3) (j := 0) rfl rfl rfl ?_
  | refine ix_own (k := 3) (j := 1) rfl rfl rfl ?_
  | refine ix_own (k := 3) (j := 2) rfl rfl rfl ?_
  | refine ix_own (k := 4) (j := 0) rfl rfl rfl ?_
  | refine ix_own (k := 4) (j := 1) rfl rfl rfl ?_
  | refine ix_own (k := 4) (j := 2) rfl rfl rfl ?_
  | refine ix_own (k := 5) (j := 0) rfl rfl rfl ?_
  | refine ix_own (k := 5) (j := 1) rfl rfl rfl ?_
  | refine ix_own (k := 5) (j := 2) rfl rfl rfl ?_
  | refine ix_own (k := 6) (j := 0) rfl rfl rfl ?_
  | refine ix_own (k := 6) (j := 1) rfl rfl rfl ?_
  | refine ix_own (k := 6) (j := 2) rfl rfl rfl ?_
  | refine ix_own (k := 7) (j := 0) rfl rfl rfl ?_
  | refine ix_own (k := 7) (j := 1) rfl rfl rfl ?_
  | refine ix_own (k := 7) (j := 2) rfl rfl rfl ?_
  | refine ix_own (k := 8) (j := 0) rfl rfl rfl ?_
  | refine ix_own (k := 8) (j := 1) rfl rfl rfl ?_
  | refine ix_own (k := 8) (j := 2) rfl rfl rfl ?_
  | refine ix_own (k := 9) (j := 0) rfl rfl rfl ?_
  | refine ix_own (k := 9) (j := 1) rfl rfl rfl ?_
  | refine ix_own (k := 9) (j := 2) rfl rfl rfl ?_
  | refine ix_own (k := 10) (j := 0) rfl rfl rfl ?_
  | refine ix_own (k := 10) (j := 1) rfl rfl rfl ?_
  | refine ix_own (k := 10) (j := 2) rfl rfl rfl ?_
  | refine ix_own (k := 11) (j := 0) rfl rfl rfl ?_
  | refine ix_own (k := 11) (j := 1) rfl rfl rfl ?_
  | refine ix_own (k := 11) (j := 2) rfl rfl rfl ?_
  | refine ix_own (k := 12) (j := 0) rfl rfl rfl ?_
  | refine ix_own (k := 12) (j := 1) rfl rfl rfl ?_
  | refine ix_own (k := 12) (j := 2) rfl rfl rfl ?_
  | refine ix_own (k := 13) (j := 0) rfl rfl rfl ?_
  | refine ix_own (k := 13) (j := 1) rfl rfl rfl ?_
  | refine ix_own (k := 13) (j := 2) rfl rfl rfl ?_))
local macro_rules | `(tactic| walk_at "seti") => `(tactic| (first
  | refine ⟨0, 0, _, _, _, rfl, rfl, rfl, rfl, of_decide_eq_true rfl, ?_⟩
  | refine ⟨0, 1, _, _, _, rfl, rfl, rfl, rfl, of_decide_eq_true rfl, ?_⟩
  | refine ⟨0, 2, _, _, _, rfl, rfl, rfl, rfl, of_decide_eq_true rfl, ?_⟩
  | refine ⟨1, 0, _, _, _, rfl, rfl, rfl, rfl, of_decide_eq_true rfl, ?_⟩
  | refine ⟨1, 1, _, _, _, rfl, rfl, rfl, rfl, of_decide_eq_true rfl, ?_⟩
  | refine ⟨1, 2, _, _, _, rfl, rfl, rfl, rfl, of_decide_eq_true rfl, ?_⟩
  | refine ⟨2, 0, _, _, _, rfl, rfl, rfl, rfl, of_decide_eq_true rfl, ?_⟩
  | refine ⟨2, 1, _, _, _, rfl, rfl, rfl, rfl, of_decide_eq_true rfl, ?_⟩
  | refine ⟨2, 2, _, _, _, rfl, rfl, rfl, rfl, of_decide_eq_true rfl, ?_⟩
  | refine ⟨3, 0, _, _, _, rfl, rfl, rfl, rfl, of_decide_eq_true rfl, ?_⟩
  | refine ⟨3, 1, _, _, _, rfl, rfl, rfl, rfl, of_decide_eq_true rfl, ?_⟩
  | refine ⟨3, 2, _, _, _, rfl, rfl, rfl, rfl, of_decide_eq_true rfl, ?_⟩
  | refine ⟨4, 0, _, _, _, rfl, rfl, rfl, rfl, of_decide_eq_true rfl, ?_⟩
  | refine ⟨4, 1, _, _, _, rfl, rfl, rfl, rfl, of_decide_eq_true rfl, ?_⟩
  | refine ⟨4, 2, _, _, _, rfl, rfl, rfl, rfl, of_decide_eq_true rfl, ?_⟩
  | refine ⟨5, 0, _, _, _, rfl, rfl, rfl, rfl, of_decide_eq_true rfl, ?_⟩
  | refine ⟨5, 1, _, _, _, rfl, rfl, rfl, rfl, of_decide_eq_true rfl, ?_⟩
  | refine ⟨5, 2, _, _, _, rfl, rfl, rfl, rfl, of_decide_eq_true rfl, ?_⟩
  | refine ⟨6, 0, _, _, _, rfl, rfl, rfl, rfl, of_decide_eq_true rfl, ?_⟩
  | refine ⟨6, 1, _, _, _, rfl, rfl, rfl, rfl, of_decide_eq_true rfl, ?_⟩
  | refine ⟨6, 2, _, _, _, rfl, rfl, rfl, rfl, of_decide_eq_true rfl, ?_⟩
  | refine ⟨7, 0, _, _, _, rfl, rfl, rfl, rfl, of_decide_eq_true rfl, ?_⟩
  | refine ⟨7, 1, _, _, _, rfl, rfl, rfl, rfl, of_decide_eq_true rfl, ?_⟩
  | refine ⟨7, 2, _, _, _, rfl, rfl, rfl, rfl, of_decide_eq_true rfl, ?_⟩
  | refine ⟨8, 0, _, _, _, rfl, rfl, rfl, rfl, of_decide_eq_true rfl, ?_⟩
  | refine ⟨8, 1, _, _, _, rfl, rfl, rfl, rfl, of_decide_eq_true rfl, ?_⟩
  | refine ⟨8, 2, _, _, _, rfl, rfl, rfl, rfl, of_decide_eq_true rfl, ?_⟩
  | refine ⟨9, 0, _, _, _, rfl, rfl, rfl, rfl, of_decide_eq_true rfl, ?_⟩
  | refine ⟨9, 1, _, _, _, rfl, rfl, rfl, rfl, of_decide_eq_true rfl, ?_⟩
  | refine ⟨9, 2, _, _, _, rfl, rfl, rfl, rfl, of_decide_eq_true rfl, ?_⟩
  | refine ⟨10, 0, _, _, _, rfl, rfl, rfl, rfl, of_decide_eq_true rfl, ?_⟩
  | refine ⟨10, 1, _, _, _, rfl, rfl, rfl, rfl, of_decide_eq_true rfl, ?_⟩
  | refine ⟨10, 2, _, _, _, rfl, rfl, rfl, rfl, of_decide_eq_true rfl, ?_⟩
  | refine ⟨11, 0, _, _, _, rfl, rfl, rfl, rfl, of_decide_eq_true rfl, ?_⟩
  | refine ⟨11, 1, _, _, _, rfl, rfl, rfl, rfl, of_decide_eq_true rfl, ?_⟩
  | refine ⟨11, 2, _, _, _, rfl, rfl, rfl, rfl, of_decide_eq_true rfl, ?_⟩
  | refine ⟨12, 0, _, _, _, rfl, rfl, rfl, rfl, of_decide_eq_true rfl, ?_⟩
  | refine ⟨12, 1, _, _, _, rfl, rfl, rfl, rfl, of_decide_eq_true rfl, ?_⟩
  | refine ⟨12, 2, _, _, _, rfl, rfl, rfl, rfl, of_decide_eq_true rfl, ?_⟩
  | refine ⟨13, 0, _, _, _, rfl, rfl, rfl, rfl, of_decide_eq_true rfl, ?_⟩
  | refine ⟨13, 1, _, _, _, rfl, rfl, rfl, rfl, of_decide_eq_true rfl, ?_⟩
  | refine ⟨13, 2, _, _, _, rfl, rfl, rfl, rfl, of_decide_eq_true rfl, ?_⟩))
local macro_rules | `(tactic| walk_at "lst") => `(tactic| (first
  | refine cd_list (.inr (.inr ⟨0, _, rfl, rfl⟩)) ?_
  | refine cd_list (.inr (.inr ⟨1, _, rfl, rfl⟩)) ?_
  | refine cd_list (.inr (.inr ⟨2, _, rfl, rfl⟩)) ?_
  | refine cd_list (.inr (.inr ⟨3, _, rfl, rfl⟩)) ?_
  | refine cd_list (.inr (.inr ⟨4, _, rfl, rfl⟩)) ?_
  | refine cd_list (.inr (.inr ⟨5, _, rfl, rfl⟩)) ?_
  | refine cd_list (.inr (.inr ⟨6, _, rfl, rfl⟩)) ?_
  | refine cd_list (.inr (.inr ⟨7, _, rfl, rfl⟩)) ?_
  | refine cd_list (.inr (.inr ⟨8, _, rfl, rfl⟩)) ?_
  | refine cd_list (.inr (.inr ⟨9, _, rfl, rfl⟩)) ?_
  | refine cd_list (.inr (.inr ⟨10, _, rfl, rfl⟩)) ?_
  | refine cd_list (.inr (.inr ⟨11, _, rfl, rfl⟩)) ?_
  | refine cd_list (.inr (.inr ⟨12, _, rfl, rfl⟩)) ?_
  | refine cd_list (.inr (.inr ⟨13, _, rfl, rfl⟩)) ?_))
local macro_rules | `(tactic| walk_at "isi") => `(tactic| (first | refine cd_isi (k := true) rfl (by decide +kernel) ?_ | refine cd_isi (k := false) rfl (by decide +kernel) ?_))
local macro_rules | `(tactic| walk_at "size") => `(tactic| (first
  | exact (show 0 ≤ sizeLine by decide) | exact (show 1 ≤ sizeLine by decide) | exact (show 2 ≤ sizeLine by decide) | exact (show 3 ≤ sizeLine by decide) | exact (show 4 ≤ sizeLine by decide) | exact (show 5 ≤ sizeLine by decide) | exact (show 6 ≤ sizeLine by decide) | exact (of_decide_eq_true rfl) | exact (Nat.le_of_ble_eq_true rfl)))

section
variable {P : Program} {w : World} {K : PySem.W.Frag} {mg : Str → Option Value} {base : Heap}
/-! ### told rooms and marks -/
structure RT where
  nm : Str
  (x y u v : Int)
  last : D
def RT.d (r : RT) : D := .tup [.str r.nm, tp r.x r.y, tp r.u r.v, r.last]
def gR (C : Addr) (last : Str) (r : RT) : D := .obj C (roomF r.nm r.x r.y r.u r.v last r.last)
structure NmOk (z : Str) : Prop where
  ok : nameOk z = true
  ln : z.length ≤ 1000
  lay : PyData.canLay0 (.str z) = true
  sm : (z.cps.toList.all fun c => decide (c < 16 ^ 8)) = true
structure RmOk (r : RT) : Prop where
  nm : NmOk r.nm
  x0 : -1000 ≤ r.x
  xu : r.x ≤ r.u
  u0 : r.u ≤ 1000
  y0 : -1000 ≤ r.y
  yv : r.y ≤ r.v
  v0 : r.v ≤ 1000
def LsB (d : D) : Prop := ∃ b, d = .bl b
def LsI (d : D) : Prop := ∃ n : Int, d = .int n ∧ 0 ≤ n ∧ n ≤ 1000
theorem nameL_nm {x : Str} (h : x ∈ nameL) : NmOk x := by
  unfold nameL at h
  simp only [List.mem_cons, List.not_mem_nil, or_false] at h
  rcases h with rfl | rfl | rfl | rfl | rfl | rfl | rfl | rfl | rfl | rfl | rfl | rfl | rfl | rfl
  all_goals exact ⟨by decide +kernel, by decide +kernel, by decide +kernel, by decide +kernel⟩
def txR (r : RT) : Str := match r.last with
  | .bl b => roomT b r.nm r.x r.y r.u r.v
  | _ => Str.empty
def txM (r : RT) : Str := match r.last with
  | .int n => markT r.nm r.x r.y r.u r.v n
  | _ => Str.empty
theorem sm_of {n : Int} (h1 : -1000 ≤ n) (h2 : n ≤ 1000) : Sm n := by
  unfold Sm
  have h3 : n.natAbs ≤ 1000 := by omega
  exact Nat.lt_of_le_of_lt h3 (by decide)
theorem big_of {n : Int} (h1 : -1000 ≤ n) (h2 : n ≤ 1000) : decide (n.natAbs < 10 ^ 100) = true := decide_eq_true (by
  have h3 : n.natAbs ≤ 1000 := by omega
  exact Nat.lt_of_le_of_lt h3 (by decide +kernel))
section
variable {r r' : RT} {C : Addr}
theorem str_R (h : RmOk r) (hl : LsB r.last) : ∀ M Φ, Φ (.str (txR r)) M → S_roomStr C [gR C "barred" r] M Φ := by
  obtain ⟨nm, x, y, u, v, la⟩ := r
  obtain ⟨b, hb⟩ := hl
  cases hb
  obtain ⟨h1, h2, h3, h4, h5, h6, h7⟩ := h
  simp only at h2 h3 h4 h5 h6 h7
  exact fun M Φ q => ⟨nm, x, y, u, v, b, rfl, h1.ln, sm_of h2 (by omega), sm_of h5 (by omega), sm_of (by omega) h4, sm_of (by omega) h7, q⟩
theorem str_M (h : RmOk r) (hl : LsI r.last) : ∀ M Φ, Φ (.str (txM r)) M → S_markStr C [gR C "blur" r] M Φ := by
  obtain ⟨nm, x, y, u, v, la⟩ := r
  obtain ⟨n, hb, hn, hn2⟩ := hl
  cases hb
  obtain ⟨h1, h2, h3, h4, h5, h6, h7⟩ := h
  simp only at h2 h3 h4 h5 h6 h7
  exact fun M Φ q => ⟨nm, x, y, u, v, n, rfl, h1.ln, sm_of h2 (by omega), sm_of h5 (by omega), sm_of (by omega) h4, sm_of (by omega) h7, sm_of (by omega) hn2, q⟩
theorem eq_R (h : RmOk r) (hl : LsB r.last) (h' : RmOk r') (hl' : LsB r'.last) : PyData.eqv (py r.d) (py r'.d) = decide (txR r = txR r') := by
  obtain ⟨nm, x, y, u, v, la⟩ := r
  obtain ⟨b, hb⟩ := hl
  cases hb
  obtain ⟨nm', x', y', u', v', la'⟩ := r'
  obtain ⟨b', hb'⟩ := hl'
  cases hb'
  rw [Bool.eq_iff_iff, decide_eq_true_eq]
  show _ ↔ roomT b nm x y u v = roomT b' nm' x' y' u' v'
  rw [roomT_inj (nameOk_sp h.nm.ok) (nameOk_sp h'.nm.ok)]
  simp only [RT.d, tp, py, pys, PyData.eqv, PyData.eqvAll, Bool.and_true, Bool.and_eq_true, beq_iff_eq]
  constructor
  · rintro ⟨e1, ⟨e2, e3⟩, ⟨e4, e5⟩, e6⟩
    exact ⟨e6, e1, e2, e3, e4, e5⟩
  · rintro ⟨e6, e1, e2, e3, e4, e5⟩
    exact ⟨e1, ⟨e2, e3⟩, ⟨e4, e5⟩, e6⟩
theorem eq_M (h : RmOk r) (hl : LsI r.last) (h' : RmOk r') (hl' : LsI r'.last) : PyData.eqv (py r.d) (py r'.d) = decide (txM r = txM r') := by
  obtain ⟨nm, x, y, u, v, la⟩ := r
  obtain ⟨b, hb, _⟩ := hl
  cases hb
  obtain ⟨nm', x', y', u', v', la'⟩ := r'
  obtain ⟨b', hb', _⟩ := hl'
  cases hb'
  rw [Bool.eq_iff_iff, decide_eq_true_eq]
  show _ ↔ markT nm x y u v b = markT nm' x' y' u' v' b'
  rw [markT_inj (nameOk_sp h.nm.ok) (nameOk_sp h'.nm.ok)]
  simp only [RT.d, tp, py, pys, PyData.eqv, PyData.eqvAll, Bool.and_true, Bool.and_eq_true, beq_iff_eq]
  constructor
  · rintro ⟨e1, ⟨e2, e3⟩, ⟨e4, e5⟩, e6⟩
    exact ⟨e1, e2, e3, e4, e5, e6⟩
  · rintro ⟨e1, e2, e3, e4, e5, e6⟩
    exact ⟨e1, ⟨e2, e3⟩, ⟨e4, e5⟩, e6⟩
theorem shp_R (h : RmOk r) (hl : LsB r.last ∨ LsI r.last) : shp r.d = true := by
  obtain ⟨nm, x, y, u, v, la⟩ := r
  have h1 := h.nm.lay
  unfold shp SeqAt.shaped
  rcases hl with ⟨b, hb⟩ | ⟨b, hb, _⟩ <;> (cases hb; simp only [RT.d, tp, py, pys, okD, okDs, PyData.canLay0, PyData.canLayAll0, Bool.and_true, Bool.true_and] at h1 ⊢; simp only [h1, PyData.depth, PyData.depthAll]; rfl)
theorem rep_R (h : RmOk r) (hl : LsB r.last ∨ LsI r.last) : smDs [.str r.nm, tp r.x r.y, tp r.u r.v, r.last] = true ∧ costDs [.str r.nm, tp r.x r.y, tp r.u r.v, r.last] + 3 ≤ sizeLine ∧ PyData.depthAll (pys [.str r.nm, tp r.x r.y, tp r.u r.v, r.last]) ≤ 1 := by
  obtain ⟨nm, x, y, u, v, la⟩ := r
  have h1 := h.nm.sm
  have h8 := h.nm.ln
  have h9 : sizeLine = 2 ^ 24 := rfl
  obtain ⟨_, h2, h3, h4, h5, h6, h7⟩ := h
  simp only at h1 h2 h3 h4 h5 h6 h7 h8
  have k1 := big_of h2 (by omega)
  have k2 := big_of h5 (by omega)
  have k3 := big_of (n := u) (by omega) h4
  have k4 := big_of (n := v) (by omega) h7
  rcases hl with ⟨b, hb⟩ | ⟨b, hb, hb1, hb2⟩
  · cases hb
    refine ⟨?_, ?_, ?_⟩
    · simp only [tp, smDs, smD, h1, k1, k2, k3, k4, Bool.and_true]
    · simp only [tp, costDs, costD]
      omega
    · simp only [tp, pys, py, PyData.depthAll, PyData.depth]
      decide
  · cases hb
    have k5 := big_of (n := b) (by omega) hb2
    refine ⟨?_, ?_, ?_⟩
    · simp only [tp, smDs, smD, h1, k1, k2, k3, k4, k5, Bool.and_true]
    · simp only [tp, costDs, costD]
      omega
    · simp only [tp, pys, py, PyData.depthAll, PyData.depth]
      decide
end
theorem shp_bs : ∀ bs : List Bool, shp (.lst (bs.map D.bl)) = true := fun bs => by
  unfold shp SeqAt.shaped
  have h1 : ∀ bs : List Bool, okDs (bs.map D.bl) = true ∧ PyData.canLayAll0 (pys (bs.map D.bl)) = true ∧ PyData.depthAll (pys (bs.map D.bl)) = 0 := fun bs => by
    induction bs with
    | nil => exact ⟨rfl, rfl, rfl⟩
    | cons b bs ih =>
      refine ⟨?_, ?_, ?_⟩
      · show (okD (.bl b) && okDs (bs.map D.bl)) = true
        rw [ih.1]
        rfl
      · show PyData.canLayAll0 (py (.bl b) :: pys (bs.map D.bl)) = true
        unfold PyData.canLayAll0
        rw [ih.2.1]
        rfl
      · show max (PyData.depth (py (.bl b))) (PyData.depthAll (pys (bs.map D.bl))) = 0
        rw [ih.2.2]
        rfl
  rw [show okD (.lst (bs.map D.bl)) = true from (h1 bs).1, Bool.true_and, show PyData.canLay0 (py (.lst (bs.map D.bl))) = true from (h1 bs).2.1, Bool.true_and]
  refine decide_eq_true ?_
  show PyData.depthAll (pys (bs.map D.bl)) + 1 ≤ 64
  rw [(h1 bs).2.2]
  decide
theorem filt_true {α β : Type} (g : α → β) (cs : List α) : (cs.filter fun _ => true).map g = cs.map g := by
  rw [List.filter_eq_self.mpr fun _ _ => rfl]
structure Nots (K : PySem.W.Frag) (C : Addr) : Prop where
  t : PySem.W.kitOne K (.type "tuple") (.ref C) = some false
  s : PySem.W.kitOne K (.type "str") (.ref C) = some false
  n : PySem.W.kitOne K (.type "NoneType") (.ref C) = some false
  bt : PySem.W.subIn K (.ref C) (.type "tuple") = some false
  bs : PySem.W.subIn K (.ref C) (.type "str") = some false
  bn : PySem.W.subIn K (.ref C) (.type "NoneType") = some false

/-! ### bad -/
theorem mem_addS {l : List Str} {k z : Str} : z ∈ addS l k ↔ z ∈ l ∨ z = k := by
  unfold addS
  split
  · rename_i h
    exact ⟨.inl, fun h2 => h2.elim id fun e => e ▸ h⟩
  · simp
theorem addS_nodup : ∀ (xs l : List Str), (∀ x, x ∈ xs → x ∉ l) → xs.Nodup → (xs.foldl addS l).length = l.length + xs.length
  | [], l, _, _ => rfl
  | x :: xs, l, h, hn => by
    rw [List.nodup_cons] at hn
    have hx : x ∉ l := h x List.mem_cons_self
    have e : addS l x = l ++ [x] := if_neg hx
    show (xs.foldl addS (addS l x)).length = _
    rw [e, addS_nodup xs (l ++ [x]) (fun y hy hm => ?_) hn.2, List.length_append, List.length_cons]
    · show l.length + (0 + 1) + xs.length = _
      rw [List.length_cons]
      omega
    · rcases List.mem_append.mp hm with hm | hm
      · exact h y (List.mem_cons_of_mem _ hy) hm
      · rw [List.mem_singleton] at hm
        exact hn.1 (hm ▸ hy)
theorem addS_le : ∀ (xs l : List Str), (xs.foldl addS l).length ≤ l.length + xs.length
  | [], l => Nat.le_refl _
  | x :: xs, l => by
    show (xs.foldl addS (addS l x)).length ≤ _
    have h := addS_le xs (addS l x)
    have h2 := addS_len (l := l) (k := x)
    rw [List.length_cons]
    omega
theorem addS_mem : ∀ (xs l : List Str) (x : Str), (x ∈ xs ∨ x ∈ l) → x ∈ xs.foldl addS l
  | [], l, x, h => h.elim (fun h => by cases h) id
  | y :: xs, l, x, h => by
    show x ∈ xs.foldl addS (addS l y)
    refine addS_mem xs _ x ?_
    rcases h with h | h
    · rcases List.mem_cons.mp h with rfl | h
      · exact .inr (mem_addS.mpr (.inr rfl))
      · exact .inl h
    · exact .inr (mem_addS.mpr (.inl h))
theorem addS_dup {xs : List Str} {x : Str} (h : x ∈ xs) : ((xs ++ [x]).foldl addS []).length < (xs ++ [x]).length := by
  rw [List.foldl_append]
  show (addS (xs.foldl addS []) x).length < _
  have e : addS (xs.foldl addS []) x = xs.foldl addS [] := if_pos (addS_mem xs [] x (.inl h))
  rw [e, List.length_append]
  have := addS_le xs []
  rw [List.length_nil] at this
  show _ < xs.length + 1
  omega
def nmOf : D → Str
  | .obj _ fs => match fs.lookup ("name" : Str) with
    | some (.str x) => x
    | _ => ""
  | _ => ""
/-- an object of class C with a name -/
def ObjC (C : Addr) (y : D) : Prop := ∃ fs, y = .obj C fs ∧ fs.lookup ("name" : Str) = some (.str (nmOf y))
theorem objC_room {C : Addr} {nm : Str} {a b c e : Int} {last : Str} {v : D} : ObjC C (.obj C (roomF nm a b c e last v)) := ⟨_, rfl, rfl⟩
theorem nm_room {C : Addr} {nm : Str} {a b c e : Int} {last : Str} {v : D} : nmOf (.obj C (roomF nm a b c e last v)) = nm := rfl
theorem tw_of {K : PySem.W.Frag} {C : Addr} {last : Str} (hR : RmC K C last) {xs : List D} (hx : ∀ y, y ∈ xs → ObjC C y) (hl : xs.length < 4000) {d : D} (hd : d = .lst xs ∨ d = .tup xs) : TwQ K d (decide ((((xs.map nmOf).foldl addS []).length : Int) < (xs.length : Int))) :=
  ⟨xs, nmOf, hd, hl, fun y hy => by
    obtain ⟨fs, h1, h2⟩ := hx y hy
    exact ⟨C, fs, h1, hR.cls, hR.nn, h2⟩, rfl⟩
theorem tw_no {K : PySem.W.Frag} {C : Addr} {last : Str} (hR : RmC K C last) {xs : List D} (hx : ∀ y, y ∈ xs → ObjC C y) (hl : xs.length < 4000) (hn : (xs.map nmOf).Nodup) {d : D} (hd : d = .lst xs ∨ d = .tup xs) : TwQ K d false := by
  have h := tw_of hR hx hl hd
  rw [addS_nodup _ _ (fun x _ h => by cases h) hn, List.length_map] at h
  rw [show decide (((([] : List Str).length + xs.length : Nat) : Int) < (xs.length : Int)) = false from decide_eq_false (by rw [List.length_nil]; omega)] at h
  exact h
theorem tw_yes {K : PySem.W.Frag} {C : Addr} {last : Str} (hR : RmC K C last) {xs : List D} {y : D} (hx : ∀ y, y ∈ xs → ObjC C y) (hy : ObjC C y) (hl : xs.length < 3999) (hn : nmOf y ∈ xs.map nmOf) : TwQ K (.lst (xs ++ [y])) true := by
  have h := tw_of hR (xs := xs ++ [y]) (d := .lst (xs ++ [y])) (fun z hz => (List.mem_append.mp hz).elim (hx z) fun h => by rw [List.mem_singleton] at h; exact h ▸ hy) (by rw [List.length_append]; show xs.length + 1 < 4000; omega) (.inl rfl)
  have h2 := addS_dup hn
  rw [show decide (((((xs ++ [y]).map nmOf).foldl addS []).length : Int) < ((xs ++ [y]).length : Int)) = true from decide_eq_true (by
    rw [List.map_append]
    rw [List.length_append, List.length_map] at h2
    rw [List.length_append]
    exact Int.ofNat_lt.mpr h2)] at h
  exact h
theorem are_all {K : PySem.W.Frag} {C : Addr} (hI : IsF K C) {xs : List D} (hx : ∀ y, y ∈ xs → ObjC C y) (hl : xs.length < sizeLine) {d : D} (hd : d = .lst xs ∨ d = .tup xs) : AreQ K C d true := by
  refine .inr ⟨xs, fun _ => true, hd, hl, fun y hy => ?_, ?_⟩
  · obtain ⟨fs, rfl, _⟩ := hx y hy
    exact .inr ⟨C, fs, rfl, hI, kit_self⟩
  · exact (List.all_eq_true.mpr (by simp)).symm
theorem lt_line {n : Nat} (h : n < 1000) : n < sizeLine := by
  have h5 : sizeLine = 2 ^ 24 := rfl
  omega
theorem sz_ok {c : Int × Int} (h : 0 < c.1 ∧ 0 < c.2) : SzA (cellD c) ∧ sizeOk (cellD c) = true := ⟨⟨_, rfl, rfl, fun xs e => by cases e; exact of_decide_eq_true rfl⟩, decide_eq_true h⟩
theorem sl_ok {a b c : Int} (h1 : 0 ≤ a) (h2 : 0 ≤ b) (h3 : 0 ≤ c) : SzA (.tup [.int a, .int b, .int c]) ∧ slipsOk (.tup [.int a, .int b, .int c]) = true := ⟨⟨_, rfl, rfl, fun xs e => by cases e; exact of_decide_eq_true rfl⟩, by rw [slips_is, decide_eq_true h1, decide_eq_true h2, decide_eq_true h3]; rfl⟩
theorem gR_obj {C : Addr} {last : Str} {rs : List RT} : ∀ y, y ∈ rs.map (gR C last) → ObjC C y := by
  intro y hy
  obtain ⟨r, _, rfl⟩ := List.mem_map.mp hy
  exact objC_room
theorem gR_nm {C : Addr} {last : Str} {rs : List RT} : (rs.map (gR C last)).map nmOf = rs.map RT.nm := by
  rw [List.map_map]
  rfl

/-! ### told sites -/
structure SiT where
  (a b s1 s2 s3 : Int)
  (rs ms : List RT)
def SiT.sl (t : SiT) : D := .tup [.int t.s1, .int t.s2, .int t.s3]
def SiT.d (t : SiT) : D := .tup [tp t.a t.b, t.sl, .tup (t.rs.map RT.d), .tup (t.ms.map RT.d)]
def SiT.o (C CR CM : Addr) (t : SiT) : D := .obj C (siteF (tp t.a t.b) t.sl (t.rs.map (gR CR "barred")) (t.ms.map (gR CM "blur")))
def yardT (a b : Int) : Str := spJ ["yard", isS a, isS b]
def slipT (a b c : Int) : Str := spJ ["slip", isS a, isS b, isS c]
def SiT.ls (t : SiT) : List Str := yardT t.a t.b :: slipT t.s1 t.s2 t.s3 :: (t.rs.map txR ++ t.ms.map txM)
structure SiT.ok (t : SiT) : Prop where
  a0 : 0 < t.a ∧ t.a ≤ 1000
  b0 : 0 < t.b ∧ t.b ≤ 1000
  s1 : 0 ≤ t.s1 ∧ t.s1 ≤ 1000
  s2 : 0 ≤ t.s2 ∧ t.s2 ≤ 1000
  s3 : 0 ≤ t.s3 ∧ t.s3 ≤ 1000
  rl : t.rs.length < 100
  ml : t.ms.length < 100
  ro : ∀ r, r ∈ t.rs → RmOk r ∧ LsB r.last
  mo : ∀ r, r ∈ t.ms → RmOk r ∧ LsI r.last
  rn : (t.rs.map RT.nm).Nodup
  mn : (t.ms.map RT.nm).Nodup
theorem SiT.ok.R7 {t : SiT} {CR CM : Addr} {rm mk : D} (h : t.ok) (hR : RmC K CR "barred") (hM : RmC K CM "blur") (hRI : IsF K CR) (hMI : IsF K CM) (h1 : rm = .lst (t.rs.map (gR CR "barred")) ∨ rm = .tup (t.rs.map (gR CR "barred"))) (h2 : mk = .lst (t.ms.map (gR CM "blur")) ∨ mk = .tup (t.ms.map (gR CM "blur"))) : R7 K CR CM (tp t.a t.b) t.sl rm mk := by
  have lr : (t.rs.map (gR CR "barred")).length < 1000 := by rw [List.length_map]; have := h.rl; omega
  have lm : (t.ms.map (gR CM "blur")).length < 1000 := by rw [List.length_map]; have := h.ml; omega
  exact ⟨⟨sz_ok (c := (t.a, t.b)) ⟨h.a0.1, h.b0.1⟩, sl_ok h.s1.1 h.s2.1 h.s3.1⟩, are_all hRI gR_obj (lt_line lr) h1, are_all hMI gR_obj (lt_line lm) h2, tw_no hR gR_obj (by omega) (by rw [gR_nm]; exact h.rn) h1, tw_no hM gR_obj (by omega) (by rw [gR_nm]; exact h.mn) h2⟩
theorem len19 {n : Int} (h1 : -1000 ≤ n) (h2 : n ≤ 1000) : (isS n).length ≤ 1000 := Nat.le_trans (sm_len (sm_of h1 h2)) (by decide)
theorem sl_w {z : Str} (h : z.length ≤ 7 := by decide +kernel) : z.length ≤ 1000 := Nat.le_trans h (by decide)
theorem lenR {r : RT} (h : RmOk r) (hl : LsB r.last) : (txR r).length ≤ 8008 := by
  obtain ⟨nm, x, y, u, v, la⟩ := r
  obtain ⟨b, hb⟩ := hl
  cases hb
  obtain ⟨h1, h2, h3, h4, h5, h6, h7⟩ := h
  simp only at h2 h3 h4 h5 h6 h7
  refine Nat.le_trans (spJ_len 1000 (parts := [if b then "barred" else "room", nm, isS x, isS y, isS u, isS v]) ?_) (of_decide_eq_true rfl)
  intro p hp
  simp only [List.mem_cons, List.not_mem_nil, or_false] at hp
  rcases hp with rfl | rfl | rfl | rfl | rfl | rfl
  · cases b <;> exact sl_w
  · exact h1.ln
  · exact len19 h2 (by omega)
  · exact len19 h5 (by omega)
  · exact len19 (by omega) h4
  · exact len19 (by omega) h7
theorem lenM {r : RT} (h : RmOk r) (hl : LsI r.last) : (txM r).length ≤ 8008 := by
  obtain ⟨nm, x, y, u, v, la⟩ := r
  obtain ⟨n, hb, hn1, hn2⟩ := hl
  cases hb
  obtain ⟨h1, h2, h3, h4, h5, h6, h7⟩ := h
  simp only at h2 h3 h4 h5 h6 h7
  refine Nat.le_trans (spJ_len 1000 (parts := ["mark", nm, isS x, isS y, isS u, isS v, isS n]) ?_) (of_decide_eq_true rfl)
  intro p hp
  simp only [List.mem_cons, List.not_mem_nil, or_false] at hp
  rcases hp with rfl | rfl | rfl | rfl | rfl | rfl | rfl
  · exact sl_w
  · exact h1.ln
  · exact len19 h2 (by omega)
  · exact len19 h5 (by omega)
  · exact len19 (by omega) h4
  · exact len19 (by omega) h7
  · exact len19 (by omega) hn2
theorem lenY {a b : Int} (h1 : 0 < a ∧ a ≤ 1000) (h2 : 0 < b ∧ b ≤ 1000) : (yardT a b).length ≤ 8008 := by
  refine Nat.le_trans (spJ_len 1000 (parts := ["yard", isS a, isS b]) ?_) (of_decide_eq_true rfl)
  intro p hp
  simp only [List.mem_cons, List.not_mem_nil, or_false] at hp
  rcases hp with rfl | rfl | rfl
  · exact sl_w
  · exact len19 (by omega) (by omega)
  · exact len19 (by omega) (by omega)
theorem lenS {a b c : Int} (h1 : 0 ≤ a ∧ a ≤ 1000) (h2 : 0 ≤ b ∧ b ≤ 1000) (h3 : 0 ≤ c ∧ c ≤ 1000) : (slipT a b c).length ≤ 8008 := by
  refine Nat.le_trans (spJ_len 1000 (parts := ["slip", isS a, isS b, isS c]) ?_) (of_decide_eq_true rfl)
  intro p hp
  simp only [List.mem_cons, List.not_mem_nil, or_false] at hp
  rcases hp with rfl | rfl | rfl | rfl
  · exact sl_w
  · exact len19 (by omega) (by omega)
  · exact len19 (by omega) (by omega)
  · exact len19 (by omega) (by omega)
theorem SiT.ok.each {t : SiT} (h : t.ok) : ∀ z, z ∈ t.ls → z.length ≤ 8008 := by
  intro z hz
  unfold SiT.ls at hz
  rcases List.mem_cons.mp hz with rfl | hz
  · exact lenY h.a0 h.b0
  rcases List.mem_cons.mp hz with rfl | hz
  · exact lenS h.s1 h.s2 h.s3
  rcases List.mem_append.mp hz with hz | hz
  · obtain ⟨r, hr, rfl⟩ := List.mem_map.mp hz
    exact lenR (h.ro r hr).1 (h.ro r hr).2
  · obtain ⟨r, hr, rfl⟩ := List.mem_map.mp hz
    exact lenM (h.mo r hr).1 (h.mo r hr).2
theorem SiT.ok.lsl {t : SiT} (h : t.ok) : t.ls.length ≤ 202 := by
  unfold SiT.ls
  simp only [List.length_cons, List.length_append, List.length_map]
  have := h.rl
  have := h.ml
  omega
theorem nl1 : ("\n" : Str).length = 1 := by decide +kernel
theorem SiT.ok.small {t : SiT} (h : t.ok) : (t.ls.map (·.length)).sum + t.ls.length * ("\n" : Str).length ≤ 16777216 := by
  have h1 := sumB (fun z : Str => z.length) 8008 t.ls h.each
  have h2 := h.lsl
  rw [nl1]
  have h3 : t.ls.length * 8008 ≤ 202 * 8008 := Nat.mul_le_mul_right _ h2
  omega
def BadS (s : Nat) : Prop := s = 10 ∨ 1114112 ≤ s
theorem BadS.sp {s : Nat} (h : BadS s) : s ≠ 32 := by
  rcases h with h | h <;> omega
theorem w_free {s : Nat} (hs : BadS s) {z : Str} (h : (z.cps.toList.all fun c => decide (c < 1114112) && decide (c ≠ 10)) = true) : s ∉ TL.tl z := fun hm => by
  have h2 := List.all_eq_true.mp h s hm
  rw [Bool.and_eq_true, decide_eq_true_eq, decide_eq_true_eq] at h2
  rcases hs with hs | hs <;> omega
theorem n_free {s : Nat} (hs : BadS s) {i : Int} : s ∉ TL.tl (isS i) := isS_free (by rcases hs with hs | hs <;> omega)
theorem let_fine : (letS.cps.toList.all fun c => decide (c < 1114112) && decide (c ≠ 10)) = true := by decide +kernel
theorem nm_free {s : Nat} (hs : BadS s) {nm : Str} (h : nameOk nm = true) : s ∉ TL.tl nm := by
  unfold nameOk at h
  simp only [Bool.and_eq_true] at h
  refine w_free hs (List.all_eq_true.mpr fun c hc => ?_)
  have h2 := List.all_eq_true.mp h.2.2.2 c hc
  exact List.all_eq_true.mp let_fine c (of_decide_eq_true h2)
theorem freeR {s : Nat} (hs : BadS s) {r : RT} (h1 : RmOk r) (h2 : LsB r.last) : s ∉ TL.tl (txR r) := by
  obtain ⟨nm, x, y, u, v, la⟩ := r
  obtain ⟨b, hb⟩ := h2
  cases hb
  refine spJ_free hs.sp (parts := [if b then "barred" else "room", nm, isS x, isS y, isS u, isS v]) fun p hp => ?_
  simp only [List.mem_cons, List.not_mem_nil, or_false] at hp
  rcases hp with rfl | rfl | rfl | rfl | rfl | rfl
  · cases b <;> exact w_free hs (by decide +kernel)
  · exact nm_free hs h1.nm.ok
  all_goals exact n_free hs
theorem freeM {s : Nat} (hs : BadS s) {r : RT} (h1 : RmOk r) (h2 : LsI r.last) : s ∉ TL.tl (txM r) := by
  obtain ⟨nm, x, y, u, v, la⟩ := r
  obtain ⟨b, hb, _⟩ := h2
  cases hb
  refine spJ_free hs.sp (parts := ["mark", nm, isS x, isS y, isS u, isS v, isS b]) fun p hp => ?_
  simp only [List.mem_cons, List.not_mem_nil, or_false] at hp
  rcases hp with rfl | rfl | rfl | rfl | rfl | rfl | rfl
  · exact w_free hs (by decide +kernel)
  · exact nm_free hs h1.nm.ok
  all_goals exact n_free hs
theorem freeY {s : Nat} (hs : BadS s) {a b : Int} : s ∉ TL.tl (yardT a b) := by
  refine spJ_free hs.sp (parts := ["yard", isS a, isS b]) fun p hp => ?_
  simp only [List.mem_cons, List.not_mem_nil, or_false] at hp
  rcases hp with rfl | rfl | rfl
  · exact w_free hs (by decide +kernel)
  all_goals exact n_free hs
theorem freeS {s : Nat} (hs : BadS s) {a b c : Int} : s ∉ TL.tl (slipT a b c) := by
  refine spJ_free hs.sp (parts := ["slip", isS a, isS b, isS c]) fun p hp => ?_
  simp only [List.mem_cons, List.not_mem_nil, or_false] at hp
  rcases hp with rfl | rfl | rfl | rfl
  · exact w_free hs (by decide +kernel)
  all_goals exact n_free hs
theorem SiT.ok.free {t : SiT} (h : t.ok) {s : Nat} (hs : BadS s) : ∀ z, z ∈ t.ls → s ∉ TL.tl z := by
  intro z hz
  unfold SiT.ls at hz
  rcases List.mem_cons.mp hz with rfl | hz
  · exact freeY hs
  rcases List.mem_cons.mp hz with rfl | hz
  · exact freeS hs
  rcases List.mem_append.mp hz with hz | hz
  · obtain ⟨r, hr, rfl⟩ := List.mem_map.mp hz
    exact freeR hs (h.ro r hr).1 (h.ro r hr).2
  · obtain ⟨r, hr, rfl⟩ := List.mem_map.mp hz
    exact freeM hs (h.mo r hr).1 (h.mo r hr).2
theorem SiT.ok.nl {t : SiT} (h : t.ok) : ∀ z, z ∈ t.ls → 10 ∉ TL.tl z := h.free (.inl rfl)
theorem lay_of {z : Str} (h : ∀ s, 1114112 ≤ s → s ∉ TL.tl z) : PyData.canLay0 (.str z) = true := by
  show (z.cps.all fun c => decide (c < 0x110000)) = true
  rw [← Array.all_toList]
  refine List.all_eq_true.mpr fun c hc => decide_eq_true ?_
  rcases Nat.lt_or_ge c 1114112 with h1 | h1
  · exact h1
  · exact absurd hc (h c h1)
theorem SiT.ok.lay {t : SiT} (h : t.ok) : ∀ z, z ∈ t.ls → PyData.canLay0 (.str z) = true := fun z hz => lay_of fun s hs => h.free (.inr hs) z hz
theorem eqv_ss : ∀ as bs : List Str, PyData.eqvAll (pys (as.map D.str)) (pys (bs.map D.str)) = decide (as = bs)
  | [], [] => rfl
  | [], b :: bs => rfl
  | a :: as, [] => rfl
  | a :: as, b :: bs => by
    show ((a == b) && PyData.eqvAll (pys (as.map D.str)) (pys (bs.map D.str))) = _
    rw [eqv_ss as bs, Bool.eq_iff_iff]
    simp only [Bool.and_eq_true, decide_eq_true_eq, List.cons.injEq, beq_iff_eq]
theorem SiT.ok.inj {t t' : SiT} (h : t.ok) (h' : t'.ok) : decide (nlJ t.ls = nlJ t'.ls) = decide (t.ls = t'.ls) := decide_eq_decide.mpr ⟨fun e => nlJ_inj (by simp [SiT.ls]) (by simp [SiT.ls]) h.nl h'.nl e, fun e => by rw [e]⟩
def S_siteStr (CR CM C : Addr) : DS := fun ds M Φ => ∃ t : SiT, ds = [t.o C CR CM] ∧ t.ok ∧ Φ (.str (nlJ t.ls)) M
theorem yard_is {a b : Int} : (((Str.empty ++ "yard ") ++ isS a) ++ " ") ++ isS b = yardT a b := by
  unfold yardT
  rw [empA, spJ_two, spJ_two, spJ_one, show ("yard " : Str) = "yard" ++ " " by decide +kernel]
  simp only [appA]
theorem slip_is {a b c : Int} : (((((Str.empty ++ "slip ") ++ isS a) ++ " ") ++ isS b) ++ " ") ++ isS c = slipT a b c := by
  unfold slipT
  rw [empA, spJ_two, spJ_two, spJ_two, spJ_one, show ("slip " : Str) = "slip" ++ " " by decide +kernel]
  simp only [appA]
theorem sl_yard : ("yard " : Str).length = 5 := by decide +kernel
theorem sl_slip : ("slip " : Str).length = 5 := by decide +kernel
abbrev s_Site_str : Stmt := inClass (top 28) 7
theorem sc_Site_str : FnScope ["self", "head", "room", "mark"] ["self"] (defScope s_Site_str) := ⟨rfl, rfl, rfl, by decide +kernel, rfl, by decide +kernel, by decide +kernel⟩
theorem ok_Site_str {f : Addr} {fd : FuncData} (F : FunD K "__str__" "Site.__str__" (defArgs s_Site_str) (defBody s_Site_str) (defScope s_Site_str) [] [] f fd) (B : Bf mg) {C CR CM : Addr} (hSt : StC K C) (hStrR : HasMe P w K mg base 1 CR "__str__" (S_roomStr CR)) (hStrM : HasMe P w K mg base 1 CM "__str__" (S_markStr CM)) : FnOk P w K mg base CX0 4 f fd ["self"] (spOf K (S_siteStr CR CM C)) := by
  refine fn_data (k := 3) F sc_Site_str (fun ds M Φ h => ?_) (fun cdv A outer s H E ds M Φ hr h => ?_)
  · obtain ⟨t, rfl, hk, q⟩ := h
    all_goals rfl
  · obtain ⟨t, rfl, hk, q⟩ := h
    have ha : Sm t.a := sm_of (by have := hk.a0; omega) (by have := hk.a0; omega)
    have la : (Str.ofString (toString t.a)).length ≤ 19 := sm_len ha
    have hb : Sm t.b := sm_of (by have := hk.b0; omega) (by have := hk.b0; omega)
    have lb : (Str.ofString (toString t.b)).length ≤ 19 := sm_len hb
    have hs1 : Sm t.s1 := sm_of (by have := hk.s1; omega) (by have := hk.s1; omega)
    have ls1 : (Str.ofString (toString t.s1)).length ≤ 19 := sm_len hs1
    have hs2 : Sm t.s2 := sm_of (by have := hk.s2; omega) (by have := hk.s2; omega)
    have ls2 : (Str.ofString (toString t.s2)).length ≤ 19 := sm_len hs2
    have hs3 : Sm t.s3 := sm_of (by have := hk.s3; omega) (by have := hk.s3; omega)
    have ls3 : (Str.ofString (toString t.s3)).length ≤ 19 := sm_len hs3
    have h5 : sizeLine = 2 ^ 24 := rfl
    have h6 := sl1
    have h7 := sl0
    have h8 := sl_yard
    have h9 := sl_slip
    have hrl := hk.rl
    have hml := hk.ml
    refine ws_set 1 sc_Site_str.nd ?_
    refine we_lst ?_
    refine wa_cons ?_
    refine we_joined ?_
    refine wj_cons ?_
    refine we_str ?_
    refine ⟨_, rfl, (by simp only [slA]; omega), ?_⟩
    refine wj_cons ?_
    refine we_fmt ?_
    refine we_ix ?_ (fun _ _ => rfl)
    refine we_attr ?_ (by rfl)
    refine wv 0 rfl ?_
    refine at_fld (.inl rfl) lk_here hSt.cls hSt.n1 ?_
    refine we_int ?_
    refine ix_tup (j := 0) rfl rfl ?_
    refine .inr ⟨_, rfl, (sm_log ha), ?_⟩
    refine ⟨_, rfl, (by simp only [slA]; omega), ?_⟩
    refine wj_cons ?_
    refine we_str ?_
    refine ⟨_, rfl, (by simp only [slA]; omega), ?_⟩
    refine wj_cons ?_
    refine we_fmt ?_
    refine we_ix ?_ (fun _ _ => rfl)
    refine we_attr ?_ (by rfl)
    refine wv 0 rfl ?_
    refine at_fld (.inl rfl) lk_here hSt.cls hSt.n1 ?_
    refine we_int ?_
    refine ix_tup (j := 1) rfl rfl ?_
    refine .inr ⟨_, rfl, (sm_log hb), ?_⟩
    refine ⟨_, rfl, (by simp only [slA]; omega), ?_⟩
    refine wj_nil ?_
    refine wa_cons ?_
    refine we_joined ?_
    refine wj_cons ?_
    refine we_str ?_
    refine ⟨_, rfl, (by simp only [slA]; omega), ?_⟩
    refine wj_cons ?_
    refine we_fmt ?_
    refine we_ix ?_ (fun _ _ => rfl)
    refine we_attr ?_ (by rfl)
    refine wv 0 rfl ?_
    refine at_fld (.inl rfl) (lk_there (by decide) lk_here) hSt.cls hSt.n2 ?_
    refine we_int ?_
    refine ix_tup (j := 0) rfl rfl ?_
    refine .inr ⟨_, rfl, (sm_log hs1), ?_⟩
    refine ⟨_, rfl, (by simp only [slA]; omega), ?_⟩
    refine wj_cons ?_
    refine we_str ?_
    refine ⟨_, rfl, (by simp only [slA]; omega), ?_⟩
    refine wj_cons ?_
    refine we_fmt ?_
    refine we_ix ?_ (fun _ _ => rfl)
    refine we_attr ?_ (by rfl)
    refine wv 0 rfl ?_
    refine at_fld (.inl rfl) (lk_there (by decide) lk_here) hSt.cls hSt.n2 ?_
    refine we_int ?_
    refine ix_tup (j := 1) rfl rfl ?_
    refine .inr ⟨_, rfl, (sm_log hs2), ?_⟩
    refine ⟨_, rfl, (by simp only [slA]; omega), ?_⟩
    refine wj_cons ?_
    refine we_str ?_
    refine ⟨_, rfl, (by simp only [slA]; omega), ?_⟩
    refine wj_cons ?_
    refine we_fmt ?_
    refine we_ix ?_ (fun _ _ => rfl)
    refine we_attr ?_ (by rfl)
    refine wv 0 rfl ?_
    refine at_fld (.inl rfl) (lk_there (by decide) lk_here) hSt.cls hSt.n2 ?_
    refine we_int ?_
    refine ix_tup (j := 2) rfl rfl ?_
    refine .inr ⟨_, rfl, (sm_log hs3), ?_⟩
    refine ⟨_, rfl, (by simp only [slA]; omega), ?_⟩
    refine wj_nil ?_
    refine wa_nil ?_
    refine ⟨(by walk_at "size"), ?_⟩
    rw [show Str.ofString (toString t.a) = isS t.a from rfl]
    rw [show Str.ofString (toString t.b) = isS t.b from rfl]
    rw [show Str.ofString (toString t.s1) = isS t.s1 from rfl]
    rw [show Str.ofString (toString t.s2) = isS t.s2 from rfl]
    rw [show Str.ofString (toString t.s3) = isS t.s3 from rfl]
    rw [yard_is, slip_is]
    refine ws_wk (Γ' := [some (t.o C CR CM), some (.lst [.str (yardT t.a t.b), .str (slipT t.s1 t.s2 t.s3)]), none, none]) (M' := M) (by repeat (first | exact wkE | refine wkS ?_ | refine wkN ?_)) (List.Sublist.refl _) ?_
    refine ws_ret ?_
    refine we_join ?_
    refine we_str ?_
    refine ⟨_, rfl, ?_⟩
    refine we_lst ?_
    refine wa_star ?_
    refine wv 1 rfl ?_
    first
    | refine ⟨_, .inr rfl, ?_⟩
    | refine ⟨_, .inl (.inl rfl), ?_⟩
    refine wa_star ?_
    refine we_frz ?_
    refine we_mapT (own := [("room", 2)]) sc_Site_str.nd (tg_name (j := 2) (by decide)) ?_ (blkOk_by (N := ["self", "head", "room", "mark"]) (sc := defScope s_Site_str) (by decide +kernel)) (fun _ _ _ _ _ => pg_name (i := 2) sc_Site_str.nd rfl (Or.inl rfl))
    refine we_attr ?_ (by rfl)
    refine wv 0 rfl ?_
    refine at_fld (.inl rfl) (lk_there (by decide) (lk_there (by decide) lk_here)) hSt.cls hSt.n3 ?_
    refine ⟨_, t.rs, gR CR "barred", fun _ => true, fun r => .str (txR r), rfl, ⟨(by omega), fun _ _ => trivial, fun a9 ha9 l9 out s H C9 cl fp => ?_, fun a9 ha9 hp9 l9 out s H C9 cl fp => ?_⟩, fun l9 => ?_⟩
    · exact wts_nil ⟨rfl, rfl⟩
    · skip
      refine wcT B.str boot_str ?_
      refine wa_cons ?_
      refine wv 2 rfl ?_
      refine wa_nil ?_
      refine cd_strO hStrR (hr.mono (by decide)) (.inl rfl) (str_R (hk.ro a9 ha9).1 (hk.ro a9 ha9).2 _ _ ⟨_, rfl, ?_⟩)
      exact ⟨rfl, rfl⟩
    refine ⟨l9, _, _, rfl, rfl, ?_⟩
    rw [filt_true]
    first
    | refine ⟨_, .inr rfl, ?_⟩
    | refine ⟨_, .inl (.inl rfl), ?_⟩
    refine wa_star ?_
    refine we_frz ?_
    refine we_mapT (own := [("mark", 3)]) sc_Site_str.nd (tg_name (j := 3) (by decide)) ?_ (blkOk_by (N := ["self", "head", "room", "mark"]) (sc := defScope s_Site_str) (by decide +kernel)) (fun _ _ _ _ _ => pg_name (i := 3) sc_Site_str.nd rfl (Or.inl rfl))
    refine we_attr ?_ (by rfl)
    refine wv 0 rfl ?_
    refine at_fld (.inl rfl) (lk_there (by decide) (lk_there (by decide) (lk_there (by decide) lk_here))) hSt.cls hSt.n4 ?_
    refine ⟨_, t.ms, gR CM "blur", fun _ => true, fun r => .str (txM r), rfl, ⟨(by omega), fun _ _ => trivial, fun a9 ha9 l9 out s H C9 cl fp => ?_, fun a9 ha9 hp9 l9 out s H C9 cl fp => ?_⟩, fun l9 => ?_⟩
    · exact wts_nil ⟨rfl, rfl⟩
    · skip
      refine wcT B.str boot_str ?_
      refine wa_cons ?_
      refine wv 3 rfl ?_
      refine wa_nil ?_
      refine cd_strO hStrM (hr.mono (by decide)) (.inl rfl) (str_M (hk.mo a9 ha9).1 (hk.mo a9 ha9).2 _ _ ⟨_, rfl, ?_⟩)
      exact ⟨rfl, rfl⟩
    refine ⟨l9, _, _, rfl, rfl, ?_⟩
    rw [filt_true]
    first
    | refine ⟨_, .inr rfl, ?_⟩
    | refine ⟨_, .inl (.inl rfl), ?_⟩
    refine wa_nil ?_
    refine ⟨(by simp only [List.length_append, List.length_map, List.length_cons, List.length_nil]; omega), ?_⟩
    refine ⟨t.ls, .inl (.inl (by unfold SiT.ls; simp only [List.map_cons, List.map_append, List.map_map, List.cons_append, List.nil_append, List.append_nil]; rfl)), hk.small, ?_⟩
    exact q
abbrev s_Site_eq : Stmt := inClass (top 28) 6
theorem sc_Site_eq : FnScope ["self", "other"] ["self", "other"] (defScope s_Site_eq) := ⟨rfl, rfl, rfl, by decide +kernel, rfl, by decide +kernel, by decide +kernel⟩
theorem ok_Site_eq {f : Addr} {fd : FuncData} (F : FunD K "__eq__" "Site.__eq__" (defArgs s_Site_eq) (defBody s_Site_eq) (defScope s_Site_eq) [] [] f fd) (B : Bf mg) {C CR CM : Addr} (hmC : mg "Site" = some (.ref C)) (hI : IsF K C) (hStr : HasMe P w K mg base 4 C "__str__" (S_siteStr CR CM C)) : FnOk P w K mg base CX0 7 f fd ["self", "other"] (spOf K (S_eqR C (S_siteStr CR CM C))) := by
  refine fn_data (k := 6) F sc_Site_eq (fun ds M Φ h => ?_) (fun cdv A outer s H E ds M Φ hr h => ?_)
  · obtain ⟨d, d', z, z', fs, gs, rfl, rfl, rfl, hz, hz', q⟩ := h
    all_goals rfl
  · obtain ⟨d, d', z, z', fs, gs, rfl, rfl, rfl, hz, hz', q⟩ := h
    refine ws_ret ?_
    refine we_and ?_
    refine wcB B.isi boot_isinstance ?_
    refine wa_cons ?_
    refine wv 1 rfl ?_
    refine wa_cons ?_
    refine wgl hmC ?_
    refine wa_nil ?_
    refine cd_isiC (.inl rfl) hI kit_self ?_
    refine ⟨_, rfl, fun hb => ?_, fun hb => ?_⟩
    · walk_at "tidy"
      refine we_one ?_
      refine we_cmp ?_ (nomark _)
      refine wcT B.str boot_str ?_
      refine wa_cons ?_
      refine wv 0 rfl ?_
      refine wa_nil ?_
      refine cd_strO hStr (hr.mono (by decide)) (.inl rfl) (hz _ _ ⟨_, rfl, ?_⟩)
      refine wcT B.str boot_str ?_
      refine wa_cons ?_
      refine wv 1 rfl ?_
      refine wa_nil ?_
      refine cd_strO hStr (hr.mono (by decide)) (.inl rfl) (hz' _ _ ⟨_, rfl, ?_⟩)
      refine od_eqS ?_
      exact q
    · walk_at "dead"
theorem ok_Site_eqT {f : Addr} {fd : FuncData} (F : FunD K "__eq__" "Site.__eq__" (defArgs s_Site_eq) (defBody s_Site_eq) (defScope s_Site_eq) [] [] f fd) (B : Bf mg) {C : Addr} (hmC : mg "Site" = some (.ref C)) : FnOk P w K mg base CX0 1 f fd ["self", "other"] (spOf K (S_eqRT K C)) := by
  refine fn_data (k := 0) F sc_Site_eq (fun ds M Φ h => ?_) (fun cdv A outer s H E ds M Φ hr h => ?_)
  · obtain ⟨d, t, fs, rfl, ht, hk, q⟩ := h
    all_goals rfl
  · obtain ⟨d, t, fs, rfl, ht, hk, q⟩ := h
    refine ws_ret ?_
    refine we_and ?_
    refine wcB B.isi boot_isinstance ?_
    refine wa_cons ?_
    refine wv 1 rfl ?_
    refine wa_cons ?_
    refine wgl hmC ?_
    refine wa_nil ?_
    refine cd_isiTC ht hk ?_
    refine ⟨_, rfl, fun hb => ?_, fun hb => ?_⟩
    · walk_at "dead"
    · walk_at "tidy"
      exact q
theorem ok_Site_eqO {f : Addr} {fd : FuncData} (F : FunD K "__eq__" "Site.__eq__" (defArgs s_Site_eq) (defBody s_Site_eq) (defScope s_Site_eq) [] [] f fd) (B : Bf mg) {C : Addr} (hmC : mg "Site" = some (.ref C)) : FnOk P w K mg base CX0 1 f fd ["self", "other"] (spOf K (S_eqRO K C)) := by
  refine fn_data (k := 0) F sc_Site_eq (fun ds M Φ h => ?_) (fun cdv A outer s H E ds M Φ hr h => ?_)
  · obtain ⟨C', fs, gs, rfl, hI, hk, q⟩ := h
    all_goals rfl
  · obtain ⟨C', fs, gs, rfl, hI, hk, q⟩ := h
    refine ws_ret ?_
    refine we_and ?_
    refine wcB B.isi boot_isinstance ?_
    refine wa_cons ?_
    refine wv 1 rfl ?_
    refine wa_cons ?_
    refine wgl hmC ?_
    refine wa_nil ?_
    refine cd_isiC (.inl rfl) hI hk ?_
    refine ⟨_, rfl, fun hb => ?_, fun hb => ?_⟩
    · walk_at "dead"
    · walk_at "tidy"
      exact q
end
end Sl57

set_option Elab.async false
set_option linter.all false
set_option maxRecDepth 100000
set_option maxHeartbeats 4000000

namespace Sl57
open PySem PySem.Spec PyProof.Rows L2 Dt
set_option hygiene false
local macro_rules | `(tactic| walk_at "op") => `(tactic| (first
  | refine od_add ?_ | refine od_sub ?_ | refine od_lt ?_ | refine od_le ?_ | refine od_gt ?_ | refine od_ge ?_ | refine od_eq ?_ | refine od_ne ?_ | refine od_is ?_ | refine od_isn ?_
  | refine od_eqS ?_ | refine od_neS ?_ | refine od_eqB ?_ | refine od_neB ?_))
local macro_rules | `(tactic| walk_at "dead") => `(tactic| (first
  | (cases hb; done)
  | (exact absurd (show false = true from hb) (by decide))
  | (exact absurd (show true = false from hb) (by decide))
  | (exact absurd hb (by decide))
  | (exfalso; simp only [decide_eq_true_eq, decide_eq_false_iff_not, Bool.not_eq_true', Bool.not_eq_false'] at hb; omega)))
local macro_rules | `(tactic| walk_at "tidy") => `(tactic| (try simp only [decide_eq_true_eq, decide_eq_false_iff_not, Bool.not_eq_true', Bool.not_eq_false'] at hb))
local macro_rules | `(tactic| walk_at "truth") => `(tactic| (first | refine tr_bl ?_ | refine tr_lst ?_ | refine tr_tup ?_ | refine tr_non ?_ | refine tr_int ?_))
local macro_rules | `(tactic| walk_at "ix") => `(tactic| (first
  | refine ix_tup (j := 0) rfl rfl ?_ | refine ix_tup (j := 1) rfl rfl ?_ | refine ix_tup (j := 2) rfl rfl ?_
  | refine ix_lst (j := 0) rfl rfl ?_ | refine ix_lst (j := 1) rfl rfl ?_ | refine ix_lst (j := 2) rfl rfl ?_
  | refine ix_own (k := 0) (j := 0) rfl rfl rfl ?_
  | refine ix_own (k := 0) (j := 1) rfl rfl rfl ?_
  | refine ix_own (k := 0) (j := 2) rfl rfl rfl ?_
  | refine ix_own (k := 1) (j := 0) rfl rfl rfl ?_
  | refine ix_own (k := 1) (j := 1) rfl rfl rfl ?_
  | refine ix_own (k := 1) (j := 2) rfl rfl rfl ?_
  | refine ix_own (k := 2) (j := 0) rfl rfl rfl ?_
  | refine ix_own (k := 2) (j := 1) rfl rfl rfl ?_
  | refine ix_own (k := 2) (j := 2) rfl rfl rfl ?_
  | refine ix_own (k := 3) (j := 0) rfl rfl rfl ?_
  | refine ix_own (k := 3) (j := 1) rfl rfl rfl ?_
  | refine ix_own (k := 3) (j := 2) rfl rfl rfl ?_
  | refine ix_own (k := 4) (j := 0) rfl rfl rfl ?_
  | refine ix_own (k := 4) (j := 1) rfl rfl rfl ?_
  | refine ix_own (k := 4) (j := 2) rfl rfl rfl ?_
  | refine ix_own (k := 5) (j := 0) rfl rfl rfl ?_
  | refine ix_own (k := 5) (j := 1) rfl rfl rfl ?_
  | refine ix_own (k := 5) (j := 2) rfl rfl rfl ?_
  | refine ix_own (k := 6) (j := 0) rfl rfl rfl ?_
  | refine ix_own (k := 6) (j := 1) rfl rfl rfl ?_
  | refine ix_own (k := 6) (j := 2) rfl rfl rfl ?_
  | refine ix_own (k := 7) (j := 0) rfl rfl rfl ?_
  | refine ix_own (k := 7) (j := 1) rfl rfl rfl ?_
  | refine ix_own (k := 7) (j := 2) rfl rfl rfl ?_
  | refine ix_own (k := 8) (j := 0) rfl rfl rfl ?_
  | refine ix_own (k := 8) (j := 1) rfl rfl rfl ?_
  | refine ix_own (k := 8) (j := 2) rfl rfl rfl ?_
  | refine ix_own (k := 9) (j := 0) rfl rfl rfl ?_
  | refine ix_own (k := 9) (j := 1) rfl rfl rfl ?_
  | refine ix_own (k := 9) (j := 2) rfl rfl rfl ?_
  | refine ix_own (k := 10) (j := 0) rfl rfl rfl ?_
  | refine ix_own (k := 10) (j := 1) rfl rfl rfl ?_
  | refine ix_own (k := 10) (j := 2) rfl rfl rfl ?_
  | refine ix_own (k := 11) (j := 0) rfl rfl rfl ?_
  | refine ix_own (k := 11) (j := 1) rfl rfl rfl ?_
  | refine ix_own (k := 11) (j := 2) rfl rfl rfl ?_
  | refine ix_own (k := 12) (j := 0) rfl rfl rfl ?_
  | refine ix_own (k := 12) (j := 1) rfl rfl rfl ?_
  | refine ix_own (k := 12) (j := 2) rfl rfl rfl ?_
  | refine ix_own (k := 13) (j := 0) rfl rfl rfl ?_
  | refine ix_own (k := 13) (j := 1) rfl rfl rfl ?_
  | refine ix_own (k := 13) (j := 2) rfl rfl rfl ?_))
local macro_rules | `(tactic| walk_at "seti") => `(tactic| (first
  | refine ⟨0, 0, _, _, _, rfl, rfl, rfl, rfl, of_decide_eq_true rfl, ?_⟩
  | refine ⟨0, 1, _, _, _, rfl, rfl, rfl, rfl, of_decide_eq_true rfl, ?_⟩
  | refine ⟨0, 2, _, _, _, rfl, rfl, rfl, rfl, of_decide_eq_true rfl, ?_⟩
  | refine ⟨1, 0, _, _, _, rfl, rfl, rfl, rfl, of_decide_eq_true rfl, ?_⟩
  | refine ⟨1, 1, _, _, _, rfl, rfl, rfl, rfl, of_decide_eq_true rfl, ?_⟩
  | refine ⟨1, 2, _, _, _, rfl, rfl, rfl, rfl, of_decide_eq_true rfl, ?_⟩
  | refine ⟨2, 0, _, _, _, rfl, rfl, rfl, rfl, of_decide_eq_true rfl, ?_⟩
  | refine ⟨2, 1, _, _, _, rfl, rfl, rfl, rfl, of_decide_eq_true rfl, ?_⟩
  | refine ⟨2, 2, _, _, _, rfl, rfl, rfl, rfl, of_decide_eq_true rfl, ?_⟩
  | refine ⟨3, 0, _, _, _, rfl, rfl, rfl, rfl, of_decide_eq_true rfl, ?_⟩
  | refine ⟨3, 1, _, _, _, rfl, rfl, rfl, rfl, of_decide_eq_true rfl, ?_⟩
  | refine ⟨3, 2, _, _, _, rfl, rfl, rfl, rfl, of_decide_eq_true rfl, ?_⟩
  | refine ⟨4, 0, _, _, _, rfl, rfl, rfl, rfl, of_decide_eq_true rfl, ?_⟩
  | refine ⟨4, 1, _, _, _, rfl, rfl, rfl, rfl, of_decide_eq_true rfl, ?_⟩
  | refine ⟨4, 2, _, _, _, rfl, rfl, rfl, rfl, of_decide_eq_true rfl, ?_⟩
  | refine ⟨5, 0, _, _, _, rfl, rfl, rfl, rfl, of_decide_eq_true rfl, ?_⟩
  | refine ⟨5, 1, _, _, _, rfl, rfl, rfl, rfl, of_decide_eq_true rfl, ?_⟩
  | refine ⟨5, 2, _, _, _, rfl, rfl, rfl, rfl, of_decide_eq_true rfl, ?_⟩
  | refine ⟨6, 0, _, _, _, rfl, rfl, rfl, rfl, of_decide_eq_true rfl, ?_⟩
  | refine ⟨6, 1, _, _, _, rfl, rfl, rfl, rfl, of_decide_eq_true rfl, ?_⟩
  | refine ⟨6, 2, _, _, _, rfl, rfl, rfl, rfl, of_decide_eq_true rfl, ?_⟩
  | refine ⟨7, 0, _, _, _, rfl, rfl, rfl, rfl, of_decide_eq_true rfl, ?_⟩
  | refine ⟨7, 1, _, _, _, rfl, rfl, rfl, rfl, of_decide_eq_true rfl, ?_⟩
  | refine ⟨7, 2, _, _, _, rfl, rfl, rfl, rfl, of_decide_eq_true rfl, ?_⟩
  | refine ⟨8, 0, _, _, _, rfl, rfl, rfl, rfl, of_decide_eq_true rfl, ?_⟩
  | refine ⟨8, 1, _, _, _, rfl, rfl, rfl, rfl, of_decide_eq_true rfl, ?_⟩
  | refine ⟨8, 2, _, _, _, rfl, rfl, rfl, rfl, of_decide_eq_true rfl, ?_⟩
  | refine ⟨9, 0, _, _, _, rfl, rfl, rfl, rfl, of_decide_eq_true rfl, ?_⟩
  | refine ⟨9, 1, _, _, _, rfl, rfl, rfl, rfl, of_decide_eq_true rfl, ?_⟩
  | refine ⟨9, 2, _, _, _, rfl, rfl, rfl, rfl, of_decide_eq_true rfl, ?_⟩
  | refine ⟨10, 0, _, _, _, rfl, rfl, rfl, rfl, of_decide_eq_true rfl, ?_⟩
  | refine ⟨10, 1, _, _, _, rfl, rfl, rfl, rfl, of_decide_eq_true rfl, ?_⟩
  | refine ⟨10, 2, _, _, _, rfl, rfl, rfl, rfl, of_decide_eq_true rfl, ?_⟩
  | refine ⟨11, 0, _, _, _, rfl, rfl, rfl, rfl, of_decide_eq_true rfl, ?_⟩
  | refine ⟨11, 1, _, _, _, rfl, rfl, rfl, rfl, of_decide_eq_true rfl, ?_⟩
  | refine ⟨11, 2, _, _, _, rfl, rfl, rfl, rfl, of_decide_eq_true rfl, ?_⟩
  | refine ⟨12, 0, _, _, _, rfl, rfl, rfl, rfl, of_decide_eq_true rfl, ?_⟩
  | refine ⟨12, 1, _, _, _, rfl, rfl, rfl, rfl, of_decide_eq_true rfl, ?_⟩
  | refine ⟨12, 2, _, _, _, rfl, rfl, rfl, rfl, of_decide_eq_true rfl, ?_⟩
  | refine ⟨13, 0, _, _, _, rfl, rfl, rfl, rfl, of_decide_eq_true rfl, ?_⟩
  | refine ⟨13, 1, _, _, _, rfl, rfl, rfl, rfl, of_decide_eq_true rfl, ?_⟩
  | refine ⟨13, 2, _, _, _, rfl, rfl, rfl, rfl, of_decide_eq_true rfl, ?_⟩))
local macro_rules | `(tactic| walk_at "lst") => `(tactic| (first
  | refine cd_list (.inr (.inr ⟨0, _, rfl, rfl⟩)) ?_
  | refine cd_list (.inr (.inr ⟨1, _, rfl, rfl⟩)) ?_
  | refine cd_list (.inr (.inr ⟨2, _, rfl, rfl⟩)) ?_
  | refine cd_list (.inr (.inr ⟨3, _, rfl, rfl⟩)) ?_
  | refine cd_list (.inr (.inr ⟨4, _, rfl, rfl⟩)) ?_
  | refine cd_list (.inr (.inr ⟨5, _, rfl, rfl⟩)) ?_
  | refine cd_list (.inr (.inr ⟨6, _, rfl, rfl⟩)) ?_
  | refine cd_list (.inr (.inr ⟨7, _, rfl, rfl⟩)) ?_
  | refine cd_list (.inr (.inr ⟨8, _, rfl, rfl⟩)) ?_
  | refine cd_list (.inr (.inr ⟨9, _, rfl, rfl⟩)) ?_
  | refine cd_list (.inr (.inr ⟨10, _, rfl, rfl⟩)) ?_
  | refine cd_list (.inr (.inr ⟨11, _, rfl, rfl⟩)) ?_
  | refine cd_list (.inr (.inr ⟨12, _, rfl, rfl⟩)) ?_
  | refine cd_list (.inr (.inr ⟨13, _, rfl, rfl⟩)) ?_))
local macro_rules | `(tactic| walk_at "isi") => `(tactic| (first | refine cd_isi (k := true) rfl (by decide +kernel) ?_ | refine cd_isi (k := false) rfl (by decide +kernel) ?_))
local macro_rules | `(tactic| walk_at "size") => `(tactic| (first
  | exact (show 0 ≤ sizeLine by decide) | exact (show 1 ≤ sizeLine by decide) | exact (show 2 ≤ sizeLine by decide) | exact (show 3 ≤ sizeLine by decide) | exact (show 4 ≤ sizeLine by decide) | exact (show 5 ≤ sizeLine by decide) | exact (show 6 ≤ sizeLine by decide) | exact (of_decide_eq_true rfl) | exact (Nat.le_of_ble_eq_true rfl)))

section
variable {P : Program} {w : World} {K : PySem.W.Frag} {mg : Str → Option Value} {base : Heap}
/-! ### lines -/
def S_numT : DS := fun ds M Φ => ∃ ns : List Int, ds = [.tup (ns.map D.int)] ∧ ns.length ≤ 10 ∧ (∀ n, n ∈ ns → -1000 ≤ n ∧ n ≤ 1000) ∧ Φ (.str (spJ (ns.map isS))) M
theorem numlen {ns : List Int} (h : ∀ n, n ∈ ns → -1000 ≤ n ∧ n ≤ 1000) (hl : ns.length ≤ 10) : (spJ (ns.map isS)).length ≤ 10010 := by
  have h1 := spJ_len 1000 (parts := ns.map isS) fun p hp => by
    obtain ⟨n, hn, rfl⟩ := List.mem_map.mp hp
    exact len19 (h n hn).1 (h n hn).2
  rw [List.length_map] at h1
  have h2 : ns.length * (1000 + 1) ≤ 10 * (1000 + 1) := Nat.mul_le_mul_right _ hl
  omega
theorem numsm {ns : List Int} (h : ∀ n, n ∈ ns → -1000 ≤ n ∧ n ≤ 1000) (hl : ns.length ≤ 10) : ((ns.map isS).map (·.length)).sum + (ns.map isS).length * (" " : Str).length ≤ 16777216 := by
  have h1 := sumB (fun z : Str => z.length) 1000 (ns.map isS) fun p hp => by
    obtain ⟨n, hn, rfl⟩ := List.mem_map.mp hp
    exact len19 (h n hn).1 (h n hn).2
  rw [sl1]
  rw [List.length_map] at h1 ⊢
  have h2 : ns.length * 1000 ≤ 10 * 1000 := Nat.mul_le_mul_right _ hl
  omega
def S_lines : DS := fun ds M Φ => ∃ t : SiT, ds = [t.d] ∧ t.ok ∧ ∀ l', Φ (.adr l') ((l', .lst (t.ls.map D.str)) :: M)
def S_siteOf (C CR CM : Addr) : DS := fun ds M Φ => ∃ t : SiT, ds = [t.d] ∧ t.ok ∧ Φ (t.o C CR CM) M
theorem line_Y {a b : Int} : ("yard " : Str) ++ spJ ([a, b].map isS) = yardT a b := by
  unfold yardT
  rw [show [a, b].map isS = [isS a, isS b] from rfl, spJ_two (a := "yard"), show ("yard " : Str) = "yard" ++ " " by decide +kernel, appA]
theorem line_S {a b c : Int} : ("slip " : Str) ++ spJ ([a, b, c].map isS) = slipT a b c := by
  unfold slipT
  rw [show [a, b, c].map isS = [isS a, isS b, isS c] from rfl, spJ_two (a := "slip"), show ("slip " : Str) = "slip" ++ " " by decide +kernel, appA]
theorem line_B {nm : Str} {x y u v : Int} : ((("barred " : Str) ++ nm) ++ " ") ++ spJ ([x, y, u, v].map isS) = roomT true nm x y u v := by
  show _ = spJ ["barred", nm, isS x, isS y, isS u, isS v]
  rw [show [x, y, u, v].map isS = [isS x, isS y, isS u, isS v] from rfl, spJ_two (a := "barred"), spJ_two (a := nm), show ("barred " : Str) = "barred" ++ " " by decide +kernel]
  simp only [appA]
theorem line_R {nm : Str} {x y u v : Int} : ((("room " : Str) ++ nm) ++ " ") ++ spJ ([x, y, u, v].map isS) = roomT false nm x y u v := by
  show _ = spJ ["room", nm, isS x, isS y, isS u, isS v]
  rw [show [x, y, u, v].map isS = [isS x, isS y, isS u, isS v] from rfl, spJ_two (a := "room"), spJ_two (a := nm), show ("room " : Str) = "room" ++ " " by decide +kernel]
  simp only [appA]
theorem line_M {nm : Str} {x y u v n : Int} : ((("mark " : Str) ++ nm) ++ " ") ++ spJ ([x, y, u, v, n].map isS) = markT nm x y u v n := by
  show _ = spJ ["mark", nm, isS x, isS y, isS u, isS v, isS n]
  rw [show [x, y, u, v, n].map isS = [isS x, isS y, isS u, isS v, isS n] from rfl, spJ_two (a := "mark"), spJ_two (a := nm), show ("mark " : Str) = "mark" ++ " " by decide +kernel]
  simp only [appA]
theorem sl_barred_ : ("barred " : Str).length = 7 := by decide +kernel
theorem sl_room_ : ("room " : Str).length = 5 := by decide +kernel
abbrev s_Lnumbers_text : Stmt := top 40
theorem sc_Lnumbers_text : FnScope ["_law_numbers", "_law_number"] ["_law_numbers"] (defScope s_Lnumbers_text) := ⟨rfl, rfl, rfl, by decide +kernel, rfl, by decide +kernel, by decide +kernel⟩
theorem ok_Lnumbers_text {f : Addr} {fd : FuncData} (F : FunD K "_law_numbers_text" "_law_numbers_text" (defArgs s_Lnumbers_text) (defBody s_Lnumbers_text) (defScope s_Lnumbers_text) [] [] f fd) (B : Bf mg) : FnOk P w K mg base CX0 1 f fd ["_law_numbers"] (spOf K S_numT) := by
  refine fn_data (k := 0) F sc_Lnumbers_text (fun ds M Φ h => ?_) (fun cdv A outer s H E ds M Φ hr h => ?_)
  · obtain ⟨ns, rfl, hl, hb9, q⟩ := h
    all_goals rfl
  · obtain ⟨ns, rfl, hl, hb9, q⟩ := h
    refine ws_ret ?_
    refine we_join ?_
    refine we_str ?_
    refine ⟨_, rfl, ?_⟩
    refine we_frz ?_
    refine we_mapT (own := [("_law_number", 1)]) sc_Lnumbers_text.nd (tg_name (j := 1) (by decide)) ?_ (blkOk_by (N := ["_law_numbers", "_law_number"]) (sc := defScope s_Lnumbers_text) (by decide +kernel)) (fun _ _ _ _ _ => pg_name (i := 1) sc_Lnumbers_text.nd rfl (Or.inl rfl))
    refine wv 0 rfl ?_
    refine ⟨_, ns, D.int, fun _ => true, fun n => .str (isS n), rfl, ⟨(by have h5 : sizeLine = 2 ^ 24 := rfl; omega), fun _ _ => trivial, fun a9 ha9 l9 out s H C9 cl fp => ?_, fun a9 ha9 hp9 l9 out s H C9 cl fp => ?_⟩, fun l9 => ?_⟩
    · exact wts_nil ⟨rfl, rfl⟩
    · skip
      refine wcT B.str boot_str ?_
      refine wa_cons ?_
      refine wv 1 rfl ?_
      refine wa_nil ?_
      refine cd_strI (sm_log (sm_of (hb9 a9 ha9).1 (hb9 a9 ha9).2)) ?_
      exact ⟨rfl, rfl⟩
    refine ⟨l9, _, _, rfl, rfl, ?_⟩
    rw [filt_true]
    refine ⟨ns.map isS, .inl (.inl (by rw [List.map_map]; rfl)), numsm hb9 hl, ?_⟩
    exact q
abbrev s_Lsite_lines : Stmt := top 41
theorem sc_Lsite_lines : FnScope ["_law_site_here", "_law_size", "_law_slips", "_law_rooms", "_law_marks", "_law_found", "_law_name", "_law_low", "_law_high", "_law_is_barred", "_law_blur"] ["_law_site_here"] (defScope s_Lsite_lines) := ⟨rfl, rfl, rfl, by decide +kernel, rfl, by decide +kernel, by decide +kernel⟩
theorem ok_Lsite_lines {f : Addr} {fd : FuncData} (F : FunD K "_law_site_lines" "_law_site_lines" (defArgs s_Lsite_lines) (defBody s_Lsite_lines) (defScope s_Lsite_lines) [] [] f fd) (B : Bf mg) (hNt : HasFn P w K mg base 1 "_law_numbers_text" S_numT) : FnOk P w K mg base CX0 2 f fd ["_law_site_here"] (spOf K S_lines) := by
  refine fn_data (k := 1) F sc_Lsite_lines (fun ds M Φ h => ?_) (fun cdv A outer s H E ds M Φ hr h => ?_)
  · obtain ⟨t, rfl, hk, q⟩ := h
    all_goals rfl
  · obtain ⟨t, rfl, hk, q⟩ := h
    have h5 : sizeLine = 2 ^ 24 := rfl
    have h6 := sl1
    have h8 := sl_yard
    have h9 := sl_slip
    have ha := hk.a0
    have hb0 := hk.b0
    have hs1 := hk.s1
    have hs2 := hk.s2
    have hs3 := hk.s3
    have hrl := hk.rl
    have hml := hk.ml
    have n1 : ∀ n, n ∈ [t.a, t.b] → -1000 ≤ n ∧ n ≤ 1000 := fun n hn => by
      simp only [List.mem_cons, List.not_mem_nil, or_false] at hn
      rcases hn with rfl | rfl <;> omega
    have n2 : ∀ n, n ∈ [t.s1, t.s2, t.s3] → -1000 ≤ n ∧ n ≤ 1000 := fun n hn => by
      simp only [List.mem_cons, List.not_mem_nil, or_false] at hn
      rcases hn with rfl | rfl | rfl <;> omega
    have m1 := numlen n1 (of_decide_eq_true rfl)
    have m2 := numlen n2 (of_decide_eq_true rfl)
    refine ws_asg ?_
    refine wv 0 rfl ?_
    refine gd_tup rfl ?_ rfl
    refine gds_cons ?_
    refine gd_name 1 sc_Lsite_lines.nd ?_
    refine gds_cons ?_
    refine gd_name 2 sc_Lsite_lines.nd ?_
    refine gds_cons ?_
    refine gd_name 3 sc_Lsite_lines.nd ?_
    refine gds_cons ?_
    refine gd_name 4 sc_Lsite_lines.nd ?_
    refine gds_nil ?_
    refine ws_wk (Γ' := [some (t.d), some (tp t.a t.b), some (t.sl), some (.tup (t.rs.map RT.d)), some (.tup (t.ms.map RT.d)), none, none, none, none, none, none]) (M' := M) (by repeat (first | exact wkE | refine wkS ?_ | refine wkN ?_)) (List.Sublist.refl _) ?_
    refine ws_set 5 sc_Lsite_lines.nd ?_
    refine we_lstO ?_
    refine wa_cons ?_
    refine we_bin ?_
    refine we_str ?_
    refine wcf hNt (hr.mono (by decide)) ?_
    refine wa_cons ?_
    refine wv 1 rfl ?_
    refine wa_nil ?_
    refine ⟨[t.a, t.b], rfl, of_decide_eq_true rfl, n1, ?_⟩
    refine od_catS (by omega) ?_
    refine wa_cons ?_
    refine we_bin ?_
    refine we_str ?_
    refine wcf hNt (hr.mono (by decide)) ?_
    refine wa_cons ?_
    refine wv 2 rfl ?_
    refine wa_nil ?_
    refine ⟨[t.s1, t.s2, t.s3], rfl, of_decide_eq_true rfl, n2, ?_⟩
    refine od_catS (by omega) ?_
    refine wa_nil ?_
    refine ⟨(by walk_at "size"), fun l_1 => ?_⟩
    rw [line_Y, line_S]
    obtain ⟨l_f, hlf⟩ : ∃ z, z = l_1 := ⟨_, rfl⟩
    rw [← hlf]
    refine ws_wk (Γ' := [some (t.d), some (tp t.a t.b), some (t.sl), some (.tup (t.rs.map RT.d)), some (.tup (t.ms.map RT.d)), some (.adr l_f), none, none, none, none, none]) (M' := (l_f, .lst ((yardT t.a t.b :: slipT t.s1 t.s2 t.s3 :: (t.rs.take 0).map txR).map D.str)) :: M) (by repeat (first | exact wkE | refine wkS ?_ | refine wkN ?_)) (List.Sublist.refl _) ?_
    refine ws_cons (w1_forT (by passes_own) rfl ?_)
    refine wv 3 rfl ?_
    refine ⟨fun i Γ M2 => Γ = [some (t.d), some (tp t.a t.b), some (t.sl), some (.tup (t.rs.map RT.d)), some (.tup (t.ms.map RT.d)), some (.adr l_f), none, none, none, none, none] ∧ M2 = (l_f, .lst ((yardT t.a t.b :: slipT t.s1 t.s2 t.s3 :: (t.rs.take i).map txR).map D.str)) :: M, _, rfl, ⟨rfl, rfl⟩, ?_, ?_⟩
    · rintro i yy Γ' M2 hyy ⟨rfl, rfl⟩
      obtain ⟨r, hz9, rfl⟩ := getMap hyy
      obtain ⟨hk9, hl9⟩ := hk.ro r (List.mem_of_getElem? hz9)
      obtain ⟨nm, x, y, u, v, la⟩ := r
      obtain ⟨b9, hb9⟩ := hl9
      cases hb9
      have hln := hk9.nm.ln
      obtain ⟨_, k2, k3, k4, k5, k6, k7⟩ := hk9
      simp only at k2 k3 k4 k5 k6 k7 hln
      have e0 := sl_barred_
      have e1 := sl_room_
      have e2 := sl_mark
      have n3 : ∀ n, n ∈ [x, y, u, v] → -1000 ≤ n ∧ n ≤ 1000 := fun n hn => by
        simp only [List.mem_cons, List.not_mem_nil, or_false] at hn
        rcases hn with rfl | rfl | rfl | rfl <;> omega
      have m3 := numlen n3 (of_decide_eq_true rfl)
      cases b9
      · skip
        refine gd_tup rfl ?_ rfl
        refine gds_cons ?_
        refine gd_name 6 sc_Lsite_lines.nd ?_
        refine gds_cons ?_
        refine gd_name 7 sc_Lsite_lines.nd ?_
        refine gds_cons ?_
        refine gd_name 8 sc_Lsite_lines.nd ?_
        refine gds_cons ?_
        refine gd_name 9 sc_Lsite_lines.nd ?_
        refine gds_nil ?_
        refine ws_expr ?_
        refine we_append ?_
        refine wv 5 rfl ?_
        refine ⟨_, 0, _, rfl, rfl, ?_⟩
        refine we_bin ?_
        refine we_bin ?_
        refine we_bin ?_
        refine we_if ?_
        refine wt_val ?_ (by intro _; rfl)
        refine wv 9 rfl ?_
        refine tr_bl ?_
        refine ⟨fun hb => ?_, fun hb => ?_⟩
        · walk_at "dead"
        · walk_at "tidy"
          refine we_str ?_
          refine wv 6 rfl ?_
          refine od_catS (by simp only [slA]; omega) ?_
          refine we_str ?_
          refine od_catS (by simp only [slA]; omega) ?_
          refine wcf hNt (hr.mono (by decide)) ?_
          refine wa_cons ?_
          refine we_bin ?_
          refine wv 7 rfl ?_
          refine wv 8 rfl ?_
          refine od_catT (of_decide_eq_true rfl) ?_
          refine wa_nil ?_
          refine ⟨[x, y, u, v], rfl, of_decide_eq_true rfl, n3, ?_⟩
          refine od_catS (by simp only [slA]; omega) ?_
          refine ⟨0, _, rfl, (by rw [List.length_map]; simp only [List.length_cons, List.length_append, List.length_map, List.length_take]; omega), ?_⟩
          rw [line_R]
          refine ws_wk (Γ' := [some (t.d), some (tp t.a t.b), some (t.sl), some (.tup (t.rs.map RT.d)), some (.tup (t.ms.map RT.d)), some (.adr l_f), none, none, none, none, none]) (M' := (l_f, .lst ((yardT t.a t.b :: slipT t.s1 t.s2 t.s3 :: (t.rs.take (i + 1)).map txR).map D.str)) :: M) (by repeat (first | exact wkE | refine wkS ?_ | refine wkN ?_)) (by rw [show (yardT t.a t.b :: slipT t.s1 t.s2 t.s3 :: (t.rs.take (i + 1)).map txR).map D.str = (yardT t.a t.b :: slipT t.s1 t.s2 t.s3 :: (t.rs.take i).map txR).map D.str ++ [.str (roomT false nm x y u v)] by rw [take_1 hz9]; simp only [List.map_append, List.map_cons, List.map_nil, List.cons_append]; rfl]; exact List.Sublist.refl _) ?_
          refine ws_nil ?_
          exact ⟨rfl, rfl⟩
      · skip
        refine gd_tup rfl ?_ rfl
        refine gds_cons ?_
        refine gd_name 6 sc_Lsite_lines.nd ?_
        refine gds_cons ?_
        refine gd_name 7 sc_Lsite_lines.nd ?_
        refine gds_cons ?_
        refine gd_name 8 sc_Lsite_lines.nd ?_
        refine gds_cons ?_
        refine gd_name 9 sc_Lsite_lines.nd ?_
        refine gds_nil ?_
        refine ws_expr ?_
        refine we_append ?_
        refine wv 5 rfl ?_
        refine ⟨_, 0, _, rfl, rfl, ?_⟩
        refine we_bin ?_
        refine we_bin ?_
        refine we_bin ?_
        refine we_if ?_
        refine wt_val ?_ (by intro _; rfl)
        refine wv 9 rfl ?_
        refine tr_bl ?_
        refine ⟨fun hb => ?_, fun hb => ?_⟩
        · walk_at "tidy"
          refine we_str ?_
          refine wv 6 rfl ?_
          refine od_catS (by simp only [slA]; omega) ?_
          refine we_str ?_
          refine od_catS (by simp only [slA]; omega) ?_
          refine wcf hNt (hr.mono (by decide)) ?_
          refine wa_cons ?_
          refine we_bin ?_
          refine wv 7 rfl ?_
          refine wv 8 rfl ?_
          refine od_catT (of_decide_eq_true rfl) ?_
          refine wa_nil ?_
          refine ⟨[x, y, u, v], rfl, of_decide_eq_true rfl, n3, ?_⟩
          refine od_catS (by simp only [slA]; omega) ?_
          refine ⟨0, _, rfl, (by rw [List.length_map]; simp only [List.length_cons, List.length_append, List.length_map, List.length_take]; omega), ?_⟩
          rw [line_B]
          refine ws_wk (Γ' := [some (t.d), some (tp t.a t.b), some (t.sl), some (.tup (t.rs.map RT.d)), some (.tup (t.ms.map RT.d)), some (.adr l_f), none, none, none, none, none]) (M' := (l_f, .lst ((yardT t.a t.b :: slipT t.s1 t.s2 t.s3 :: (t.rs.take (i + 1)).map txR).map D.str)) :: M) (by repeat (first | exact wkE | refine wkS ?_ | refine wkN ?_)) (by rw [show (yardT t.a t.b :: slipT t.s1 t.s2 t.s3 :: (t.rs.take (i + 1)).map txR).map D.str = (yardT t.a t.b :: slipT t.s1 t.s2 t.s3 :: (t.rs.take i).map txR).map D.str ++ [.str (roomT true nm x y u v)] by rw [take_1 hz9]; simp only [List.map_append, List.map_cons, List.map_nil, List.cons_append]; rfl]; exact List.Sublist.refl _) ?_
          refine ws_nil ?_
          exact ⟨rfl, rfl⟩
        · walk_at "dead"
    · rintro Γ' M2 ⟨rfl, rfl⟩
      rw [List.length_map, List.take_length]
      refine ws_cons (w1_forT (by passes_own) rfl ?_)
      refine wv 4 rfl ?_
      refine ⟨fun i Γ M2 => Γ = [some (t.d), some (tp t.a t.b), some (t.sl), some (.tup (t.rs.map RT.d)), some (.tup (t.ms.map RT.d)), some (.adr l_f), none, none, none, none, none] ∧ M2 = (l_f, .lst ((yardT t.a t.b :: slipT t.s1 t.s2 t.s3 :: (t.rs.map txR ++ (t.ms.take i).map txM)).map D.str)) :: M, _, rfl, ⟨rfl, (by rw [List.take_zero, List.map_nil, List.append_nil])⟩, ?_, ?_⟩
      · rintro i yy Γ' M2 hyy ⟨rfl, rfl⟩
        obtain ⟨r, hz9, rfl⟩ := getMap hyy
        obtain ⟨hk9, hl9⟩ := hk.mo r (List.mem_of_getElem? hz9)
        obtain ⟨nm, x, y, u, v, la⟩ := r
        obtain ⟨b9, hb9, hb8, hb7⟩ := hl9
        cases hb9
        have hln := hk9.nm.ln
        obtain ⟨_, k2, k3, k4, k5, k6, k7⟩ := hk9
        simp only at k2 k3 k4 k5 k6 k7 hln
        have e0 := sl_barred_
        have e1 := sl_room_
        have e2 := sl_mark
        have n3 : ∀ n, n ∈ [x, y, u, v, b9] → -1000 ≤ n ∧ n ≤ 1000 := fun n hn => by
          simp only [List.mem_cons, List.not_mem_nil, or_false] at hn
          rcases hn with rfl | rfl | rfl | rfl | rfl <;> omega
        have m3 := numlen n3 (of_decide_eq_true rfl)
        refine gd_tup rfl ?_ rfl
        refine gds_cons ?_
        refine gd_name 6 sc_Lsite_lines.nd ?_
        refine gds_cons ?_
        refine gd_name 7 sc_Lsite_lines.nd ?_
        refine gds_cons ?_
        refine gd_name 8 sc_Lsite_lines.nd ?_
        refine gds_cons ?_
        refine gd_name 10 sc_Lsite_lines.nd ?_
        refine gds_nil ?_
        refine ws_expr ?_
        refine we_append ?_
        refine wv 5 rfl ?_
        refine ⟨_, 0, _, rfl, rfl, ?_⟩
        refine we_bin ?_
        refine we_bin ?_
        refine we_bin ?_
        refine we_str ?_
        refine wv 6 rfl ?_
        refine od_catS (by simp only [slA]; omega) ?_
        refine we_str ?_
        refine od_catS (by simp only [slA]; omega) ?_
        refine wcf hNt (hr.mono (by decide)) ?_
        refine wa_cons ?_
        refine we_bin ?_
        refine we_bin ?_
        refine wv 7 rfl ?_
        refine wv 8 rfl ?_
        refine od_catT (of_decide_eq_true rfl) ?_
        refine we_tup ?_
        refine wa_cons ?_
        refine wv 10 rfl ?_
        refine wa_nil ?_
        refine ⟨(by walk_at "size"), ?_⟩
        refine od_catT (of_decide_eq_true rfl) ?_
        refine wa_nil ?_
        refine ⟨[x, y, u, v, b9], rfl, of_decide_eq_true rfl, n3, ?_⟩
        refine od_catS (by simp only [slA]; omega) ?_
        refine ⟨0, _, rfl, (by rw [List.length_map]; simp only [List.length_cons, List.length_append, List.length_map, List.length_take]; omega), ?_⟩
        rw [line_M]
        refine ws_wk (Γ' := [some (t.d), some (tp t.a t.b), some (t.sl), some (.tup (t.rs.map RT.d)), some (.tup (t.ms.map RT.d)), some (.adr l_f), none, none, none, none, none]) (M' := (l_f, .lst ((yardT t.a t.b :: slipT t.s1 t.s2 t.s3 :: (t.rs.map txR ++ (t.ms.take (i + 1)).map txM)).map D.str)) :: M) (by repeat (first | exact wkE | refine wkS ?_ | refine wkN ?_)) (by rw [show (yardT t.a t.b :: slipT t.s1 t.s2 t.s3 :: (t.rs.map txR ++ (t.ms.take (i + 1)).map txM)).map D.str = (yardT t.a t.b :: slipT t.s1 t.s2 t.s3 :: (t.rs.map txR ++ (t.ms.take i).map txM)).map D.str ++ [.str (markT nm x y u v b9)] by rw [take_1 hz9]; simp only [List.map_append, List.map_cons, List.map_nil, List.cons_append, List.append_assoc]; rfl]; exact List.Sublist.refl _) ?_
        refine ws_nil ?_
        exact ⟨rfl, rfl⟩
      · rintro Γ' M2 ⟨rfl, rfl⟩
        rw [List.length_map, List.take_length]
        refine ws_ret ?_
        refine wv 5 rfl ?_
        exact q _
abbrev s_Lsite_of : Stmt := top 42
theorem sc_Lsite_of : FnScope ["_law_site_here", "_law_rooms", "_law_name", "_law_low", "_law_high", "_law_is_barred", "_law_blur"] ["_law_site_here"] (defScope s_Lsite_of) := ⟨rfl, rfl, rfl, by decide +kernel, rfl, by decide +kernel, by decide +kernel⟩
theorem ok_Lsite_of {f : Addr} {fd : FuncData} (F : FunD K "_law_site_of" "_law_site_of" (defArgs s_Lsite_of) (defBody s_Lsite_of) (defScope s_Lsite_of) [] [] f fd) (B : Bf mg) {C CR CM : Addr} (hRoom : HasMk P w K mg base 6 CR "Room" (S_room CR)) (hMark : HasMk P w K mg base 6 CM "Mark" (S_mark CM)) (hSite : HasMkX P w K mg base 4 C "Site" [] (S_siteG C (R7 K CR CM))) (hR : RmC K CR "barred") (hM : RmC K CM "blur") (hRI : IsF K CR) (hMI : IsF K CM) : FnOk P w K mg base CX0 9 f fd ["_law_site_here"] (spOf K (S_siteOf C CR CM)) := by
  refine fn_data (k := 8) F sc_Lsite_of (fun ds M Φ h => ?_) (fun cdv A outer s H E ds M Φ hr h => ?_)
  · obtain ⟨t, rfl, hk, q⟩ := h
    all_goals rfl
  · obtain ⟨t, rfl, hk, q⟩ := h
    refine ws_mapT (own := [("_law_name", 2), ("_law_low", 3), ("_law_high", 4), ("_law_is_barred", 5)]) 1 sc_Lsite_of.nd (tg_tup (js := [2, 3, 4, 5]) (by decide)) ?_ (blkOk_by (N := ["_law_site_here", "_law_rooms", "_law_name", "_law_low", "_law_high", "_law_is_barred", "_law_blur"]) (sc := defScope s_Lsite_of) (by decide +kernel)) (fun _ _ _ _ _ => pg_tup rfl (pgs_cons (pg_name (i := 2) sc_Lsite_of.nd rfl (Or.inl rfl)) (pgs_cons (pg_name (i := 3) sc_Lsite_of.nd rfl (Or.inl rfl)) (pgs_cons (pg_name (i := 4) sc_Lsite_of.nd rfl (Or.inl rfl)) (pgs_cons (pg_name (i := 5) sc_Lsite_of.nd rfl (Or.inl rfl)) pgs_nil)))))
    refine we_ix ?_ (fun _ _ => rfl)
    refine wv 0 rfl ?_
    refine we_int ?_
    refine ix_tup (j := 2) rfl rfl ?_
    refine ⟨_, t.rs, RT.d, fun _ => true, gR CR "barred", rfl, ⟨(by have h5 : sizeLine = 2 ^ 24 := rfl; have := hk.rl; have := hk.ml; omega), fun _ _ => ⟨_, rfl, rfl⟩, fun a9 ha9 l9 out s H C9 cl fp => ?_, fun a9 ha9 hp9 l9 out s H C9 cl fp => ?_⟩, fun l9 => ?_⟩
    · exact wts_nil ⟨rfl, rfl⟩
    · skip
      obtain ⟨hk9, hl9⟩ := hk.ro a9 ha9
      obtain ⟨nm9, x9, y9, u9, v9, la9⟩ := a9
      obtain ⟨b9, hb9⟩ := hl9
      cases hb9
      refine wmk hRoom (hr.mono (by decide)) ?_
      refine wa_cons ?_
      refine wv 2 rfl ?_
      refine wa_cons ?_
      refine wv 3 rfl ?_
      refine wa_cons ?_
      refine wv 4 rfl ?_
      refine wa_cons ?_
      refine wv 5 rfl ?_
      refine wa_nil ?_
      intro l8
      refine ⟨l8, nm9, x9, y9, u9, v9, b9, _, rfl, hk9.nm.ok, hk9.nm.ln, hk9.xu, hk9.yv, rfl, rfl, _, _, rfl, rfl, rfl⟩
    refine ws_freeze (i := 1) rfl ?_
    rw [filt_true]
    refine ws_ret ?_
    refine we_x (wxm hSite (hr.mono (by decide)) ?_)
    refine wa_cons ?_
    refine we_ix ?_ (fun _ _ => rfl)
    refine wv 0 rfl ?_
    refine we_int ?_
    refine ix_tup (j := 0) rfl rfl ?_
    refine wa_cons ?_
    refine we_ix ?_ (fun _ _ => rfl)
    refine wv 0 rfl ?_
    refine we_int ?_
    refine ix_tup (j := 1) rfl rfl ?_
    refine wa_cons ?_
    refine wv 1 rfl ?_
    refine wa_cons ?_
    refine we_frz ?_
    refine we_mapT (own := [("_law_name", 2), ("_law_low", 3), ("_law_high", 4), ("_law_blur", 6)]) sc_Lsite_of.nd (tg_tup (js := [2, 3, 4, 6]) (by decide)) ?_ (blkOk_by (N := ["_law_site_here", "_law_rooms", "_law_name", "_law_low", "_law_high", "_law_is_barred", "_law_blur"]) (sc := defScope s_Lsite_of) (by decide +kernel)) (fun _ _ _ _ _ => pg_tup rfl (pgs_cons (pg_name (i := 2) sc_Lsite_of.nd rfl (Or.inl rfl)) (pgs_cons (pg_name (i := 3) sc_Lsite_of.nd rfl (Or.inl rfl)) (pgs_cons (pg_name (i := 4) sc_Lsite_of.nd rfl (Or.inl rfl)) (pgs_cons (pg_name (i := 6) sc_Lsite_of.nd rfl (Or.inl rfl)) pgs_nil)))))
    refine we_ix ?_ (fun _ _ => rfl)
    refine wv 0 rfl ?_
    refine we_int ?_
    refine ix_tup (j := 3) rfl rfl ?_
    refine ⟨_, t.ms, RT.d, fun _ => true, gR CM "blur", rfl, ⟨(by have h5 : sizeLine = 2 ^ 24 := rfl; have := hk.rl; have := hk.ml; omega), fun _ _ => ⟨_, rfl, rfl⟩, fun a9 ha9 l9 out s H C9 cl fp => ?_, fun a9 ha9 hp9 l9 out s H C9 cl fp => ?_⟩, fun l9 => ?_⟩
    · exact wts_nil ⟨rfl, rfl⟩
    · skip
      obtain ⟨hk9, hl9⟩ := hk.mo a9 ha9
      obtain ⟨nm9, x9, y9, u9, v9, la9⟩ := a9
      obtain ⟨b9, hb9, hb8, hb7⟩ := hl9
      cases hb9
      refine wmk hMark (hr.mono (by decide)) ?_
      refine wa_cons ?_
      refine wv 2 rfl ?_
      refine wa_cons ?_
      refine wv 3 rfl ?_
      refine wa_cons ?_
      refine wv 4 rfl ?_
      refine wa_cons ?_
      refine wv 6 rfl ?_
      refine wa_nil ?_
      intro l8
      refine ⟨l8, nm9, x9, y9, u9, v9, b9, _, rfl, hk9.nm.ok, hk9.nm.ln, hk9.xu, hk9.yv, hb8, rfl, rfl, _, _, rfl, rfl, rfl⟩
    refine ⟨l9, _, _, rfl, rfl, ?_⟩
    rw [filt_true]
    refine wa_nil ?_
    intro l9
    refine ⟨l9, _, _, _, _, _, _, _, rfl, rfl, hk.R7 hR hM hRI hMI (.inl rfl) (.inl rfl), .inl rfl, .inl rfl, rfl, _, _, rfl, ?_⟩
    exact q
/-! ### corners -/
def S_corners : DS := fun ds M Φ => ∃ (l l2 : Addr) (k : Nat) (a b : Int), ds = [.adr l, tp a b] ∧ DealAt M k l l2 ∧ 0 < a ∧ a < 100 ∧ 0 < b ∧ b < 100 ∧ ∀ (x y u v : Int) gs m, -1 ≤ x → x ≤ u → -1 ≤ y → y ≤ v → u < 200 → v < 200 → Good gs m → Φ (.tup [tp x y, tp u v]) (put2 M k l l2 gs m)
abbrev s_Lcorners : Stmt := top 38
theorem sc_Lcorners : FnScope ["_law_deal_here", "_law_size", "_law_found", "_law_side", "_law_low"] ["_law_deal_here", "_law_size"] (defScope s_Lcorners) := ⟨rfl, rfl, rfl, by decide +kernel, rfl, by decide +kernel, by decide +kernel⟩
theorem ok_Lcorners {f : Addr} {fd : FuncData} (F : FunD K "_law_corners" "_law_corners" (defArgs s_Lcorners) (defBody s_Lcorners) (defScope s_Lcorners) [] [] f fd) (B : Bf mg) (hDraw : HasFn P w K mg base 1 "_law_draw" S_draw) : FnOk P w K mg base CX0 2 f fd ["_law_deal_here", "_law_size"] (spOf K S_corners) := by
  refine fn_data (k := 1) F sc_Lcorners (fun ds M Φ h => ?_) (fun cdv A outer s H E ds M Φ hr h => ?_)
  · obtain ⟨l, l2, k, a, b, rfl, hD, ha0, ha1, hb0, hb1, q⟩ := h
    all_goals rfl
  · obtain ⟨l, l2, k, a, b, rfl, hD, ha0, ha1, hb0, hb1, q⟩ := h
    have hkl := hD.len
    refine ws_set 2 sc_Lcorners.nd ?_
    refine we_lstO ?_
    refine wa_nil ?_
    refine ⟨(by walk_at "size"), fun l_1 => ?_⟩
    refine wu_T (by passes_own) ?_
    refine wv 1 rfl ?_
    refine ⟨_, rfl, ?_⟩
    refine gd_name 3 sc_Lcorners.nd ?_
    refine ws_set 4 sc_Lcorners.nd ?_
    refine we_bin ?_
    refine wcf hDraw (hr.mono (by decide)) ?_
    refine wa_cons ?_
    refine wv 0 rfl ?_
    refine wa_cons ?_
    refine we_bin ?_
    refine wv 3 rfl ?_
    refine we_int ?_
    walk_at "op"
    refine wa_nil ?_
    refine ⟨l, l2, k + 1, _, rfl, deal_cons (hD), by omega, by omega, fun t1 gs1 m1 ht1 ht1x hg1 => ?_⟩
    rw [put2_cons]
    refine wcf hDraw (hr.mono (by decide)) ?_
    refine wa_cons ?_
    refine wv 0 rfl ?_
    refine wa_cons ?_
    refine we_int ?_
    refine wa_nil ?_
    refine ⟨l, l2, k + 1, _, rfl, deal_cons (deal_put hkl hg1), by omega, by omega, fun t2 gs2 m2 ht2 ht2x hg2 => ?_⟩
    rw [put2_cons, put2_put2]
    walk_at "op"
    refine ws_expr ?_
    refine we_append ?_
    refine wv 2 rfl ?_
    refine ⟨_, 0, _, rfl, rfl, ?_⟩
    refine we_tup ?_
    refine wa_cons ?_
    refine wv 4 rfl ?_
    refine wa_cons ?_
    refine we_bin ?_
    refine wv 4 rfl ?_
    refine wcf hDraw (hr.mono (by decide)) ?_
    refine wa_cons ?_
    refine wv 0 rfl ?_
    refine wa_cons ?_
    refine we_int ?_
    refine wa_nil ?_
    refine ⟨l, l2, k + 1, _, rfl, deal_cons (deal_put hkl hg2), by omega, by omega, fun t3 gs3 m3 ht3 ht3x hg3 => ?_⟩
    rw [put2_cons, put2_put2]
    walk_at "op"
    refine wa_nil ?_
    refine ⟨(by walk_at "size"), ?_⟩
    refine ⟨0, _, rfl, of_decide_eq_true rfl, ?_⟩
    refine ws_wk (Γ' := [some (.adr l), some (tp a b), some (.adr l_1), none, none]) (M' := (l_1, .lst [tp (t1 - t2) (t1 - t2 + t3)]) :: put2 M k l l2 gs3 m3) (by repeat (first | exact wkE | refine wkS ?_ | refine wkN ?_)) (List.Sublist.refl _) ?_
    refine ws_nil ?_
    refine gd_name 3 sc_Lcorners.nd ?_
    refine ws_set 4 sc_Lcorners.nd ?_
    refine we_bin ?_
    refine wcf hDraw (hr.mono (by decide)) ?_
    refine wa_cons ?_
    refine wv 0 rfl ?_
    refine wa_cons ?_
    refine we_bin ?_
    refine wv 3 rfl ?_
    refine we_int ?_
    walk_at "op"
    refine wa_nil ?_
    refine ⟨l, l2, k + 1, _, rfl, deal_cons (deal_put hkl hg3), by omega, by omega, fun t4 gs4 m4 ht4 ht4x hg4 => ?_⟩
    rw [put2_cons, put2_put2]
    refine wcf hDraw (hr.mono (by decide)) ?_
    refine wa_cons ?_
    refine wv 0 rfl ?_
    refine wa_cons ?_
    refine we_int ?_
    refine wa_nil ?_
    refine ⟨l, l2, k + 1, _, rfl, deal_cons (deal_put hkl hg4), by omega, by omega, fun t5 gs5 m5 ht5 ht5x hg5 => ?_⟩
    rw [put2_cons, put2_put2]
    walk_at "op"
    refine ws_expr ?_
    refine we_append ?_
    refine wv 2 rfl ?_
    refine ⟨_, 0, _, rfl, rfl, ?_⟩
    refine we_tup ?_
    refine wa_cons ?_
    refine wv 4 rfl ?_
    refine wa_cons ?_
    refine we_bin ?_
    refine wv 4 rfl ?_
    refine wcf hDraw (hr.mono (by decide)) ?_
    refine wa_cons ?_
    refine wv 0 rfl ?_
    refine wa_cons ?_
    refine we_int ?_
    refine wa_nil ?_
    refine ⟨l, l2, k + 1, _, rfl, deal_cons (deal_put hkl hg5), by omega, by omega, fun t6 gs6 m6 ht6 ht6x hg6 => ?_⟩
    rw [put2_cons, put2_put2]
    walk_at "op"
    refine wa_nil ?_
    refine ⟨(by walk_at "size"), ?_⟩
    refine ⟨0, _, rfl, of_decide_eq_true rfl, ?_⟩
    refine ws_wk (Γ' := [some (.adr l), some (tp a b), some (.adr l_1), none, none]) (M' := (l_1, .lst [tp (t1 - t2) (t1 - t2 + t3), tp (t4 - t5) (t4 - t5 + t6)]) :: put2 M k l l2 gs6 m6) (by repeat (first | exact wkE | refine wkS ?_ | refine wkN ?_)) (List.Sublist.refl _) ?_
    refine ws_nil ?_
    refine ws_freeze (i := 2) rfl ?_
    refine ws_ret ?_
    refine we_tup ?_
    refine wa_cons ?_
    refine we_tup ?_
    refine wa_cons ?_
    refine we_ix ?_ (fun _ _ => rfl)
    refine we_ix ?_ (fun _ _ => rfl)
    refine wv 2 rfl ?_
    refine we_int ?_
    refine ix_lst (j := 0) rfl rfl ?_
    refine we_int ?_
    refine ix_tup (j := 0) rfl rfl ?_
    refine wa_cons ?_
    refine we_ix ?_ (fun _ _ => rfl)
    refine we_ix ?_ (fun _ _ => rfl)
    refine wv 2 rfl ?_
    refine we_int ?_
    refine ix_lst (j := 1) rfl rfl ?_
    refine we_int ?_
    refine ix_tup (j := 0) rfl rfl ?_
    refine wa_nil ?_
    refine ⟨(by walk_at "size"), ?_⟩
    refine wa_cons ?_
    refine we_tup ?_
    refine wa_cons ?_
    refine we_ix ?_ (fun _ _ => rfl)
    refine we_ix ?_ (fun _ _ => rfl)
    refine wv 2 rfl ?_
    refine we_int ?_
    refine ix_lst (j := 0) rfl rfl ?_
    refine we_int ?_
    refine ix_tup (j := 1) rfl rfl ?_
    refine wa_cons ?_
    refine we_ix ?_ (fun _ _ => rfl)
    refine we_ix ?_ (fun _ _ => rfl)
    refine wv 2 rfl ?_
    refine we_int ?_
    refine ix_lst (j := 1) rfl rfl ?_
    refine we_int ?_
    refine ix_tup (j := 1) rfl rfl ?_
    refine wa_nil ?_
    refine ⟨(by walk_at "size"), ?_⟩
    refine wa_nil ?_
    refine ⟨(by walk_at "size"), ?_⟩
    exact q _ _ _ _ _ _ (by omega) (by omega) (by omega) (by omega) (by omega) (by omega) hg6
/-! ### site -/
def RT.ok (r : RT) : Prop := (r.x ≤ r.u ∧ r.y ≤ r.v) ∧ -1 ≤ r.x ∧ -1 ≤ r.y ∧ r.u < 200 ∧ r.v < 200
def S_site6 : DS := fun ds M Φ => ∃ (l l2 : Addr) (k : Nat) (szs : List (Int × Int)) (most : Int) (as bs : List Str), ds = [.adr l, .lst (szs.map cellD), .int most, .tup [.lst (as.map D.str), .lst (bs.map D.str)]] ∧ DealAt M k l l2 ∧ 0 < szs.length ∧ szs.length < 100 ∧ (∀ c, c ∈ szs → 0 < c.1 ∧ c.1 < 100 ∧ 0 < c.2 ∧ c.2 < 100) ∧ 0 ≤ most ∧ most < 100 ∧ as.length < 100 ∧ bs.length < 100 ∧
  ∀ (c : Int × Int) (s1 s2 s3 : Int) (rs ms : List RT) gs m, c ∈ szs → (0 ≤ s1 ∧ s1 < 101) → (0 ≤ s2 ∧ s2 < 101) → (0 ≤ s3 ∧ s3 < 101) → rs.map RT.nm = as → ms.map RT.nm = bs → (∀ r, r ∈ rs → r.ok ∧ ∃ b, r.last = .bl b) → (∀ r, r ∈ ms → r.ok ∧ ∃ n : Int, (0 ≤ n ∧ n < 101) ∧ r.last = .int n) → Good gs m → Φ (.tup [cellD c, .tup [.int s1, .int s2, .int s3], .tup (rs.map RT.d), .tup (ms.map RT.d)]) (put2 M k l l2 gs m)
abbrev s_Lsite : Stmt := top 39
theorem sc_Lsite : FnScope ["_law_deal_here", "_law_sizes", "_law_most", "_law_names_here", "_law_size", "_law_slips", "_law_k", "_law_rooms", "_law_marks", "_law_name", "_law_low", "_law_high"] ["_law_deal_here", "_law_sizes", "_law_most", "_law_names_here"] (defScope s_Lsite) := ⟨rfl, rfl, rfl, by decide +kernel, rfl, by decide +kernel, by decide +kernel⟩
theorem ok_Lsite {f : Addr} {fd : FuncData} (F : FunD K "_law_site" "_law_site" (defArgs s_Lsite) (defBody s_Lsite) (defScope s_Lsite) [] [] f fd) (B : Bf mg) (hDraw : HasFn P w K mg base 1 "_law_draw" S_draw) (hPick : HasFn P w K mg base 2 "_law_pick" S_pick) (hCo : HasFn P w K mg base 2 "_law_corners" S_corners) : FnOk P w K mg base CX0 3 f fd ["_law_deal_here", "_law_sizes", "_law_most", "_law_names_here"] (spOf K S_site6) := by
  refine fn_data (k := 2) F sc_Lsite (fun ds M Φ h => ?_) (fun cdv A outer s H E ds M Φ hr h => ?_)
  · obtain ⟨l, l2, k, szs, most, as, bs, rfl, hD, hz0, hz1, hzs, hm0, hm1, hal, hbl, q⟩ := h
    all_goals rfl
  · obtain ⟨l, l2, k, szs, most, as, bs, rfl, hD, hz0, hz1, hzs, hm0, hm1, hal, hbl, q⟩ := h
    have hkl := hD.len
    refine ws_set 4 sc_Lsite.nd ?_
    refine wcf hPick (hr.mono (by decide)) ?_
    refine wa_cons ?_
    refine wv 0 rfl ?_
    refine wa_cons ?_
    refine wv 1 rfl ?_
    refine wa_nil ?_
    refine ⟨l, l2, k, _, .inl rfl, hD, (by rw [List.length_map]; omega), (by rw [List.length_map]; omega), fun x9 gs1 m1 hx9 hg1 => ?_⟩
    obtain ⟨c, hcm, rfl⟩ := List.mem_map.mp hx9
    refine ws_set 5 sc_Lsite.nd ?_
    refine wcT B.tuple boot_tuple ?_
    refine wa_cons ?_
    refine we_lcR1 (own := [("_law_k", 6)]) (j := 6) sc_Lsite.nd rfl B.range ?_ (by decide) (blkOk_by (N := ["_law_deal_here", "_law_sizes", "_law_most", "_law_names_here", "_law_size", "_law_slips", "_law_k", "_law_rooms", "_law_marks", "_law_name", "_law_low", "_law_high"]) (sc := defScope s_Lsite) (by decide +kernel)) rfl (fun _ _ _ _ _ => pg_name (i := 6) sc_Lsite.nd rfl (Or.inl rfl)) (by intro _; rfl)
    refine wa_cons ?_
    refine we_int ?_
    refine wa_nil ?_
    refine ⟨fun i out M' => ∃ (ns : List Int) (gs : List Int) (m : Int), out = ns.map D.int ∧ ns.length = i ∧ (∀ n, n ∈ ns → 0 ≤ n ∧ n < 101) ∧ Good gs m ∧ M' = put2 M k l l2 gs m, _, rfl, by decide, by decide, ⟨[], gs1, m1, rfl, rfl, fun n hn => (by cases hn), hg1, rfl⟩, ?_, ?_⟩
    · rintro i l9 out M' hi ⟨ns, gs, m, rfl, hns, hnn, hg, rfl⟩ s H C cl fp
      refine wts_nil ⟨fun _ s H C cl fp => ?_, fun z => by cases z⟩
      refine wcf hDraw (hr.mono (by decide)) ?_
      refine wa_cons ?_
      refine wv 0 rfl ?_
      refine wa_cons ?_
      refine we_bin ?_
      refine wv 2 rfl ?_
      refine we_int ?_
      walk_at "op"
      refine wa_nil ?_
      refine ⟨l, l2, k + 1, _, rfl, deal_cons (deal_put hkl hg), by omega, by omega, fun t9 gs9 m9 ht9 ht9x hg9 => ?_⟩
      rw [put2_cons, put2_put2]
      refine ⟨_, rfl, (by rw [List.length_map, hns]; have h5 : sizeLine = 2 ^ 24 := rfl; omega), ns ++ [t9], gs9, m9, (by rw [List.map_append]; rfl), (by rw [List.length_append, hns]; rfl), fun n hn => ?_, hg9, rfl⟩
      rcases List.mem_append.mp hn with hn | hn
      · exact hnn n hn
      · rw [List.mem_singleton] at hn
        omega
    rintro l9 out M' ⟨ns, gs, m, rfl, hns, hnn, hg, rfl⟩
    obtain ⟨n1, n2, n3, rfl⟩ : ∃ n1 n2 n3 : Int, ns = [n1, n2, n3] := by
      match ns, hns with
      | [p1, p2, p3], _ => exact ⟨_, _, _, rfl⟩
    refine wa_nil ?_
    refine cd_tuple (.inr (.inr ⟨0, _, rfl, rfl⟩)) ?_
    refine ws_wk (Γ' := [some (.adr l), some (.lst (szs.map cellD)), some (.int most), some (.tup [.lst (as.map D.str), .lst (bs.map D.str)]), some (cellD c), some (.tup [.int n1, .int n2, .int n3]), none, none, none, none, none, none]) (M' := put2 M k l l2 gs m) (by repeat (first | exact wkE | refine wkS ?_ | refine wkN ?_)) (.cons _ (.refl _)) ?_
    refine ws_par 7 8 sc_Lsite.nd ?_
    refine wa_cons ?_
    refine we_lstO ?_
    refine wa_nil ?_
    refine ⟨(by walk_at "size"), fun l_1 => ?_⟩
    refine wa_cons ?_
    refine we_lstO ?_
    refine wa_nil ?_
    refine ⟨(by walk_at "size"), fun l_2 => ?_⟩
    refine wa_nil ?_
    refine ⟨_, _, rfl, ?_⟩
    obtain ⟨l_a, hla⟩ : ∃ z, z = l_1 := ⟨_, rfl⟩
    obtain ⟨l_b, hlb⟩ : ∃ z, z = l_2 := ⟨_, rfl⟩
    rw [← hla, ← hlb]
    refine ws_cons (w1_forL (by passes_own) rfl ?_)
    refine we_ix ?_ (fun _ _ => rfl)
    refine wv 3 rfl ?_
    refine we_int ?_
    refine ix_tup (j := 0) rfl rfl ?_
    refine ⟨fun i Γ M2 => ∃ (rs : List RT) (gs : List Int) (m : Int), rs.map RT.nm = as.take i ∧ (∀ r, r ∈ rs → r.ok ∧ ∃ b, r.last = .bl b) ∧ Good gs m ∧ Γ = [some (.adr l), some (.lst (szs.map cellD)), some (.int most), some (.tup [.lst (as.map D.str), .lst (bs.map D.str)]), some (cellD c), some (.tup [.int n1, .int n2, .int n3]), none, some (.adr l_a), some (.adr l_b), none, none, none] ∧ M2 = (l_b, .lst []) :: (l_a, .lst (rs.map RT.d)) :: put2 M k l l2 gs m, _, rfl, ⟨[], gs, m, rfl, fun r hr9 => (by cases hr9), hg, rfl, rfl⟩, ?_, ?_⟩
    · rintro i yy Γ' M2 hyy ⟨rs, gs, m, hnm, hok, hg, rfl, rfl⟩
      obtain ⟨z, hz9, rfl⟩ := getMap hyy
      have hil := (List.getElem?_eq_some_iff.mp hz9).1
      have hrl : rs.length = i := by
        have e9 := congrArg List.length hnm
        rw [List.length_map, List.length_take] at e9
        omega
      refine gd_name 9 sc_Lsite.nd ?_
      refine ws_asg ?_
      refine wcf hCo (hr.mono (by decide)) ?_
      refine wa_cons ?_
      refine wv 0 rfl ?_
      refine wa_cons ?_
      refine wv 4 rfl ?_
      refine wa_nil ?_
      have hzc := hzs c hcm
      refine ⟨l, l2, k + 2, _, _, rfl, deal_cons (deal_cons (deal_put hkl hg)), hzc.1, hzc.2.1, hzc.2.2.1, hzc.2.2.2, fun x y u v gs4 m4 hx1 hxu hy1 hyv hu9 hv9 hg4 => ?_⟩
      rw [put2_cons, put2_cons, put2_put2]
      refine gd_tup rfl ?_ rfl
      refine gds_cons ?_
      refine gd_name 10 sc_Lsite.nd ?_
      refine gds_cons ?_
      refine gd_name 11 sc_Lsite.nd ?_
      refine gds_nil ?_
      refine ws_expr ?_
      refine we_append ?_
      refine wv 7 rfl ?_
      refine ⟨_, 1, _, rfl, rfl, ?_⟩
      refine we_tup ?_
      refine wa_cons ?_
      refine wv 9 rfl ?_
      refine wa_cons ?_
      refine wv 10 rfl ?_
      refine wa_cons ?_
      refine wv 11 rfl ?_
      refine wa_cons ?_
      refine we_cmp ?_ (nomark _)
      refine wcf hDraw (hr.mono (by decide)) ?_
      refine wa_cons ?_
      refine wv 0 rfl ?_
      refine wa_cons ?_
      refine we_int ?_
      refine wa_nil ?_
      refine ⟨l, l2, k + 2, _, rfl, deal_cons (deal_cons (deal_put hkl hg4)), by omega, by omega, fun t5 gs5 m5 ht5 ht5x hg5 => ?_⟩
      rw [put2_cons, put2_cons, put2_put2]
      refine we_int ?_
      walk_at "op"
      refine wa_nil ?_
      refine ⟨(by walk_at "size"), ?_⟩
      refine ⟨1, _, rfl, (by rw [List.length_map]; have h5 : sizeLine = 2 ^ 24 := rfl; omega), ?_⟩
      refine ws_wk (Γ' := [some (.adr l), some (.lst (szs.map cellD)), some (.int most), some (.tup [.lst (as.map D.str), .lst (bs.map D.str)]), some (cellD c), some (.tup [.int n1, .int n2, .int n3]), none, some (.adr l_a), some (.adr l_b), none, none, none]) (M' := (l_b, .lst []) :: (l_a, .lst ((rs ++ [(⟨z, x, y, u, v, .bl (decide (t5 = 0))⟩ : RT)]).map RT.d)) :: put2 M k l l2 gs5 m5) (by repeat (first | exact wkE | refine wkS ?_ | refine wkN ?_)) (by rw [List.map_append]; exact List.Sublist.refl _) ?_
      refine ws_nil ?_
      refine ⟨rs ++ [⟨z, x, y, u, v, .bl (decide (t5 = 0))⟩], gs5, m5, (by rw [List.map_append, hnm, take_1 hz9]; rfl), fun r hr9 => ?_, hg5, rfl, rfl⟩
      rcases List.mem_append.mp hr9 with hr9 | hr9
      · exact hok r hr9
      · rw [List.mem_singleton] at hr9
        subst hr9
        exact ⟨⟨⟨hxu, hyv⟩, hx1, hy1, hu9, hv9⟩, _, rfl⟩
    · rintro Γ' M2 ⟨rs, gs, m, hnm0, hok0, hg, rfl, rfl⟩
      rw [List.length_map, List.take_length] at hnm0
      refine ws_cons (w1_forL (by passes_own) rfl ?_)
      refine we_ix ?_ (fun _ _ => rfl)
      refine wv 3 rfl ?_
      refine we_int ?_
      refine ix_tup (j := 1) rfl rfl ?_
      refine ⟨fun i Γ M2 => ∃ (ms : List RT) (gs : List Int) (m : Int), ms.map RT.nm = bs.take i ∧ (∀ r, r ∈ ms → r.ok ∧ ∃ n : Int, (0 ≤ n ∧ n < 101) ∧ r.last = .int n) ∧ Good gs m ∧ Γ = [some (.adr l), some (.lst (szs.map cellD)), some (.int most), some (.tup [.lst (as.map D.str), .lst (bs.map D.str)]), some (cellD c), some (.tup [.int n1, .int n2, .int n3]), none, some (.adr l_a), some (.adr l_b), none, none, none] ∧ M2 = (l_b, .lst (ms.map RT.d)) :: (l_a, .lst (rs.map RT.d)) :: put2 M k l l2 gs m, _, rfl, ⟨[], gs, m, rfl, fun r hr9 => (by cases hr9), hg, rfl, rfl⟩, ?_, ?_⟩
      · rintro i yy Γ' M2 hyy ⟨ms, gs, m, hnm, hok, hg, rfl, rfl⟩
        obtain ⟨z, hz9, rfl⟩ := getMap hyy
        have hil := (List.getElem?_eq_some_iff.mp hz9).1
        have hrl : ms.length = i := by
          have e9 := congrArg List.length hnm
          rw [List.length_map, List.length_take] at e9
          omega
        refine gd_name 9 sc_Lsite.nd ?_
        refine ws_asg ?_
        refine wcf hCo (hr.mono (by decide)) ?_
        refine wa_cons ?_
        refine wv 0 rfl ?_
        refine wa_cons ?_
        refine wv 4 rfl ?_
        refine wa_nil ?_
        have hzc := hzs c hcm
        refine ⟨l, l2, k + 2, _, _, rfl, deal_cons (deal_cons (deal_put hkl hg)), hzc.1, hzc.2.1, hzc.2.2.1, hzc.2.2.2, fun x y u v gs4 m4 hx1 hxu hy1 hyv hu9 hv9 hg4 => ?_⟩
        rw [put2_cons, put2_cons, put2_put2]
        refine gd_tup rfl ?_ rfl
        refine gds_cons ?_
        refine gd_name 10 sc_Lsite.nd ?_
        refine gds_cons ?_
        refine gd_name 11 sc_Lsite.nd ?_
        refine gds_nil ?_
        refine ws_expr ?_
        refine we_append ?_
        refine wv 8 rfl ?_
        refine ⟨_, 0, _, rfl, rfl, ?_⟩
        refine we_tup ?_
        refine wa_cons ?_
        refine wv 9 rfl ?_
        refine wa_cons ?_
        refine wv 10 rfl ?_
        refine wa_cons ?_
        refine wv 11 rfl ?_
        refine wa_cons ?_
        refine wcf hDraw (hr.mono (by decide)) ?_
        refine wa_cons ?_
        refine wv 0 rfl ?_
        refine wa_cons ?_
        refine we_bin ?_
        refine wv 2 rfl ?_
        refine we_int ?_
        walk_at "op"
        refine wa_nil ?_
        refine ⟨l, l2, k + 2, _, rfl, deal_cons (deal_cons (deal_put hkl hg4)), by omega, by omega, fun t5 gs5 m5 ht5 ht5x hg5 => ?_⟩
        rw [put2_cons, put2_cons, put2_put2]
        refine wa_nil ?_
        refine ⟨(by walk_at "size"), ?_⟩
        refine ⟨0, _, rfl, (by rw [List.length_map]; have h5 : sizeLine = 2 ^ 24 := rfl; omega), ?_⟩
        refine ws_wk (Γ' := [some (.adr l), some (.lst (szs.map cellD)), some (.int most), some (.tup [.lst (as.map D.str), .lst (bs.map D.str)]), some (cellD c), some (.tup [.int n1, .int n2, .int n3]), none, some (.adr l_a), some (.adr l_b), none, none, none]) (M' := (l_b, .lst ((ms ++ [(⟨z, x, y, u, v, .int t5⟩ : RT)]).map RT.d)) :: (l_a, .lst (rs.map RT.d)) :: put2 M k l l2 gs5 m5) (by repeat (first | exact wkE | refine wkS ?_ | refine wkN ?_)) (by rw [List.map_append]; exact List.Sublist.refl _) ?_
        refine ws_nil ?_
        refine ⟨ms ++ [⟨z, x, y, u, v, .int t5⟩], gs5, m5, (by rw [List.map_append, hnm, take_1 hz9]; rfl), fun r hr9 => ?_, hg5, rfl, rfl⟩
        rcases List.mem_append.mp hr9 with hr9 | hr9
        · exact hok r hr9
        · rw [List.mem_singleton] at hr9
          subst hr9
          exact ⟨⟨⟨hxu, hyv⟩, hx1, hy1, hu9, hv9⟩, _, ⟨ht5, by omega⟩, rfl⟩
      · rintro Γ' M2 ⟨ms, gs, m, hnm1, hok1, hg, rfl, rfl⟩
        rw [List.length_map, List.take_length] at hnm1
        refine ws_freeze (i := 8) rfl ?_
        refine ws_freeze (i := 7) rfl ?_
        refine ws_ret ?_
        refine we_tup ?_
        refine wa_cons ?_
        refine wv 4 rfl ?_
        refine wa_cons ?_
        refine wv 5 rfl ?_
        refine wa_cons ?_
        refine wcT B.tuple boot_tuple ?_
        refine wa_cons ?_
        refine wv 7 rfl ?_
        refine wa_nil ?_
        refine cd_tuple (.inl rfl) ?_
        refine wa_cons ?_
        refine wcT B.tuple boot_tuple ?_
        refine wa_cons ?_
        refine wv 8 rfl ?_
        refine wa_nil ?_
        refine cd_tuple (.inl rfl) ?_
        refine wa_nil ?_
        refine ⟨(by walk_at "size"), ?_⟩
        exact q c n1 n2 n3 rs ms gs m hcm (hnn _ (by simp)) (hnn _ (by simp)) (hnn _ (by simp)) hnm0 hnm1 hok0 hok1 hg
end
end Sl57

set_option Elab.async false
set_option linter.all false
set_option maxRecDepth 100000
set_option maxHeartbeats 4000000

namespace Sl57
open PySem PySem.Spec PyProof.Rows L2 Dt
set_option hygiene false
local macro_rules | `(tactic| walk_at "op") => `(tactic| (first
  | refine od_add ?_ | refine od_sub ?_ | refine od_lt ?_ | refine od_le ?_ | refine od_gt ?_ | refine od_ge ?_ | refine od_eq ?_ | refine od_ne ?_ | refine od_is ?_ | refine od_isn ?_
  | refine od_eqS ?_ | refine od_neS ?_ | refine od_eqB ?_ | refine od_neB ?_))
local macro_rules | `(tactic| walk_at "dead") => `(tactic| (first
  | (cases hb; done)
  | (exact absurd (show false = true from hb) (by decide))
  | (exact absurd (show true = false from hb) (by decide))
  | (exact absurd hb (by decide))
  | (exfalso; simp only [decide_eq_true_eq, decide_eq_false_iff_not, Bool.not_eq_true', Bool.not_eq_false'] at hb; omega)))
local macro_rules | `(tactic| walk_at "tidy") => `(tactic| (try simp only [decide_eq_true_eq, decide_eq_false_iff_not, Bool.not_eq_true', Bool.not_eq_false'] at hb))
local macro_rules | `(tactic| walk_at "truth") => `(tactic| (first | refine tr_bl ?_ | refine tr_lst ?_ | refine tr_tup ?_ | refine tr_non ?_ | refine tr_int ?_))
local macro_rules | `(tactic| walk_at "ix") => `(tactic| (first
  | refine ix_tup (j := 0) rfl rfl ?_ | refine ix_tup (j := 1) rfl rfl ?_ | refine ix_tup (j := 2) rfl rfl ?_
  | refine ix_lst (j := 0) rfl rfl ?_ | refine ix_lst (j := 1) rfl rfl ?_ | refine ix_lst (j := 2) rfl rfl ?_
  | refine ix_own (k := 0) (j := 0) rfl rfl rfl ?_
  | refine ix_own (k := 0) (j := 1) rfl rfl rfl ?_
  | refine ix_own (k := 0) (j := 2) rfl rfl rfl ?_
  | refine ix_own (k := 1) (j := 0) rfl rfl rfl ?_
  | refine ix_own (k := 1) (j := 1) rfl rfl rfl ?_
  | refine ix_own (k := 1) (j := 2) rfl rfl rfl ?_
  | refine ix_own (k := 2) (j := 0) rfl rfl rfl ?_
  | refine ix_own (k := 2) (j := 1) rfl rfl rfl ?_
  | refine ix_own (k := 2) (j := 2) rfl rfl rfl ?_
  | refine ix_own (k := 3) (j := 0) rfl rfl rfl ?_
  | refine ix_own (k := 3) (j := 1) rfl rfl rfl ?_
  | refine ix_own (k := 3) (j := 2) rfl rfl rfl ?_
  | refine ix_own (k := 4) (j := 0) rfl rfl rfl ?_
  | refine ix_own (k := 4) (j := 1) rfl rfl rfl ?_
  | refine ix_own (k := 4) (j := 2) rfl rfl rfl ?_
  | refine ix_own (k := 5) (j := 0) rfl rfl rfl ?_
  | refine ix_own (k := 5) (j := 1) rfl rfl rfl ?_
  | refine ix_own (k := 5) (j := 2) rfl rfl rfl ?_
  | refine ix_own (k := 6) (j := 0) rfl rfl rfl ?_
  | refine ix_own (k := 6) (j := 1) rfl rfl rfl ?_
  | refine ix_own (k := 6) (j := 2) rfl rfl rfl ?_
  | refine ix_own (k := 7) (j := 0) rfl rfl rfl ?_
  | refine ix_own (k := 7) (j := 1) rfl rfl rfl ?_
  | refine ix_own (k := 7) (j := 2) rfl rfl rfl ?_
  | refine ix_own (k := 8) (j := 0) rfl rfl rfl ?_
  | refine ix_own (k := 8) (j := 1) rfl rfl rfl ?_
  | refine ix_own (k := 8) (j := 2) rfl rfl rfl ?_
  | refine ix_own (k := 9) (j := 0) rfl rfl rfl ?_
  | refine ix_own (k := 9) (j := 1) rfl rfl rfl ?_
  | refine ix_own (k := 9) (j := 2) rfl rfl rfl ?_
  | refine ix_own (k := 10) (j := 0) rfl rfl rfl ?_
  | refine ix_own (k := 10) (j := 1) rfl rfl rfl ?_
  | refine ix_own (k := 10) (j := 2) rfl rfl rfl ?_
  | refine ix_own (k := 11) (j := 0) rfl rfl rfl ?_
  | refine ix_own (k := 11) (j := 1) rfl rfl rfl ?_
  | refine ix_own (k := 11) (j := 2) rfl rfl rfl ?_
  | refine ix_own (k := 12) (j := 0) rfl rfl rfl ?_
  | refine ix_own (k := 12) (j := 1) rfl rfl rfl ?_
  | refine ix_own (k := 12) (j := 2) rfl rfl rfl ?_
  | refine ix_own (k := 13) (j := 0) rfl rfl rfl ?_
  | refine ix_own (k := 13) (j := 1) rfl rfl rfl ?_
  | refine ix_own (k := 13) (j := 2) rfl rfl rfl ?_))
local macro_rules | `(tactic| walk_at "seti") => `(tactic| (first
  | refine ⟨0, 0, _, _, _, rfl, rfl, rfl, rfl, of_decide_eq_true rfl, ?_⟩
  | refine ⟨0, 1, _, _, _, rfl, rfl, rfl, rfl, of_decide_eq_true rfl, ?_⟩
  | refine ⟨0, 2, _, _, _, rfl, rfl, rfl, rfl, of_decide_eq_true rfl, ?_⟩
  | refine ⟨1, 0, _, _, _, rfl, rfl, rfl, rfl, of_decide_eq_true rfl, ?_⟩
  | refine ⟨1, 1, _, _, _, rfl, rfl, rfl, rfl, of_decide_eq_true rfl, ?_⟩
  | refine ⟨1, 2, _, _, _, rfl, rfl, rfl, rfl, of_decide_eq_true rfl, ?_⟩
  | refine ⟨2, 0, _, _, _, rfl, rfl, rfl, rfl, of_decide_eq_true rfl, ?_⟩
  | refine ⟨2, 1, _, _, _, rfl, rfl, rfl, rfl, of_decide_eq_true rfl, ?_⟩
  | refine ⟨2, 2, _, _, _, rfl, rfl, rfl, rfl, of_decide_eq_true rfl, ?_⟩
  | refine ⟨3, 0, _, _, _, rfl, rfl, rfl, rfl, of_decide_eq_true rfl, ?_⟩
  | refine ⟨3, 1, _, _, _, rfl, rfl, rfl, rfl, of_decide_eq_true rfl, ?_⟩
  | refine ⟨3, 2, _, _, _, rfl, rfl, rfl, rfl, of_decide_eq_true rfl, ?_⟩
  | refine ⟨4, 0, _, _, _, rfl, rfl, rfl, rfl, of_decide_eq_true rfl, ?_⟩
  | refine ⟨4, 1, _, _, _, rfl, rfl, rfl, rfl, of_decide_eq_true rfl, ?_⟩
  | refine ⟨4, 2, _, _, _, rfl, rfl, rfl, rfl, of_decide_eq_true rfl, ?_⟩
  | refine ⟨5, 0, _, _, _, rfl, rfl, rfl, rfl, of_decide_eq_true rfl, ?_⟩
  | refine ⟨5, 1, _, _, _, rfl, rfl, rfl, rfl, of_decide_eq_true rfl, ?_⟩
  | refine ⟨5, 2, _, _, _, rfl, rfl, rfl, rfl, of_decide_eq_true rfl, ?_⟩
  | refine ⟨6, 0, _, _, _, rfl, rfl, rfl, rfl, of_decide_eq_true rfl, ?_⟩
  | refine ⟨6, 1, _, _, _, rfl, rfl, rfl, rfl, of_decide_eq_true rfl, ?_⟩
  | refine ⟨6, 2, _, _, _, rfl, rfl, rfl, rfl, of_decide_eq_true rfl, ?_⟩
  | refine ⟨7, 0, _, _, _, rfl, rfl, rfl, rfl, of_decide_eq_true rfl, ?_⟩
  | refine ⟨7, 1, _, _, _, rfl, rfl, rfl, rfl, of_decide_eq_true rfl, ?_⟩
  | refine ⟨7, 2, _, _, _, rfl, rfl, rfl, rfl, of_decide_eq_true rfl, ?_⟩
  | refine ⟨8, 0, _, _, _, rfl, rfl, rfl, rfl, of_decide_eq_true rfl, ?_⟩
  | refine ⟨8, 1, _, _, _, rfl, rfl, rfl, rfl, of_decide_eq_true rfl, ?_⟩
  | refine ⟨8, 2, _, _, _, rfl, rfl, rfl, rfl, of_decide_eq_true rfl, ?_⟩
  | refine ⟨9, 0, _, _, _, rfl, rfl, rfl, rfl, of_decide_eq_true rfl, ?_⟩
  | refine ⟨9, 1, _, _, _, rfl, rfl, rfl, rfl, of_decide_eq_true rfl, ?_⟩
  | refine ⟨9, 2, _, _, _, rfl, rfl, rfl, rfl, of_decide_eq_true rfl, ?_⟩
  | refine ⟨10, 0, _, _, _, rfl, rfl, rfl, rfl, of_decide_eq_true rfl, ?_⟩
  | refine ⟨10, 1, _, _, _, rfl, rfl, rfl, rfl, of_decide_eq_true rfl, ?_⟩
  | refine ⟨10, 2, _, _, _, rfl, rfl, rfl, rfl, of_decide_eq_true rfl, ?_⟩
  | refine ⟨11, 0, _, _, _, rfl, rfl, rfl, rfl, of_decide_eq_true rfl, ?_⟩
  | refine ⟨11, 1, _, _, _, rfl, rfl, rfl, rfl, of_decide_eq_true rfl, ?_⟩
  | refine ⟨11, 2, _, _, _, rfl, rfl, rfl, rfl, of_decide_eq_true rfl, ?_⟩
  | refine ⟨12, 0, _, _, _, rfl, rfl, rfl, rfl, of_decide_eq_true rfl, ?_⟩
  | refine ⟨12, 1, _, _, _, rfl, rfl, rfl, rfl, of_decide_eq_true rfl, ?_⟩
  | refine ⟨12, 2, _, _, _, rfl, rfl, rfl, rfl, of_decide_eq_true rfl, ?_⟩
  | refine ⟨13, 0, _, _, _, rfl, rfl, rfl, rfl, of_decide_eq_true rfl, ?_⟩
  | refine ⟨13, 1, _, _, _, rfl, rfl, rfl, rfl, of_decide_eq_true rfl, ?_⟩
  | refine ⟨13, 2, _, _, _, rfl, rfl, rfl, rfl, of_decide_eq_true rfl, ?_⟩))
local macro_rules | `(tactic| walk_at "lst") => `(tactic| (first
  | refine cd_list (.inr (.inr ⟨0, _, rfl, rfl⟩)) ?_
  | refine cd_list (.inr (.inr ⟨1, _, rfl, rfl⟩)) ?_
  | refine cd_list (.inr (.inr ⟨2, _, rfl, rfl⟩)) ?_
  | refine cd_list (.inr (.inr ⟨3, _, rfl, rfl⟩)) ?_
  | refine cd_list (.inr (.inr ⟨4, _, rfl, rfl⟩)) ?_
  | refine cd_list (.inr (.inr ⟨5, _, rfl, rfl⟩)) ?_
  | refine cd_list (.inr (.inr ⟨6, _, rfl, rfl⟩)) ?_
  | refine cd_list (.inr (.inr ⟨7, _, rfl, rfl⟩)) ?_
  | refine cd_list (.inr (.inr ⟨8, _, rfl, rfl⟩)) ?_
  | refine cd_list (.inr (.inr ⟨9, _, rfl, rfl⟩)) ?_
  | refine cd_list (.inr (.inr ⟨10, _, rfl, rfl⟩)) ?_
  | refine cd_list (.inr (.inr ⟨11, _, rfl, rfl⟩)) ?_
  | refine cd_list (.inr (.inr ⟨12, _, rfl, rfl⟩)) ?_
  | refine cd_list (.inr (.inr ⟨13, _, rfl, rfl⟩)) ?_))
local macro_rules | `(tactic| walk_at "isi") => `(tactic| (first | refine cd_isi (k := true) rfl (by decide +kernel) ?_ | refine cd_isi (k := false) rfl (by decide +kernel) ?_))
local macro_rules | `(tactic| walk_at "size") => `(tactic| (first
  | exact (show 0 ≤ sizeLine by decide) | exact (show 1 ≤ sizeLine by decide) | exact (show 2 ≤ sizeLine by decide) | exact (show 3 ≤ sizeLine by decide) | exact (show 4 ≤ sizeLine by decide) | exact (show 5 ≤ sizeLine by decide) | exact (show 6 ≤ sizeLine by decide) | exact (of_decide_eq_true rfl) | exact (Nat.le_of_ble_eq_true rfl)))

section
variable {P : Program} {w : World} {K : PySem.W.Frag} {mg : Str → Option Value} {base : Heap}
/-! ### numbers from texts -/
def digS : Str := ⟨#[48, 49, 50, 51, 52, 53, 54, 55, 56, 57]⟩
theorem dig_mem {c : Nat} : c ∈ digS.cps.toList ↔ 48 ≤ c ∧ c ≤ 57 := by
  constructor
  · intro h
    have h : c ∈ [48, 49, 50, 51, 52, 53, 54, 55, 56, 57] := h
    simp only [List.mem_cons, List.not_mem_nil, or_false] at h
    omega
  · intro h
    show c ∈ [48, 49, 50, 51, 52, 53, 54, 55, 56, 57]
    simp only [List.mem_cons, List.not_mem_nil, or_false]
    omega
def S_numIn : DS := fun ds M Φ => ∃ n : Int, ds = [.str (isS n)] ∧ Sm n ∧ Φ (.int n) M
/-- a text of digits -/
structure Dig (y : Str) (a : Nat) : Prop where
  tl : TL.tl y = TL.numL a
theorem Dig.ne {y : Str} {a : Nat} (h : Dig y a) : decide (y = "") = false := decide_eq_false fun e => by
  have h1 := h.tl
  rw [e] at h1
  exact TL.numL_ne a h1.symm
theorem Dig.all {y : Str} {a : Nat} (h : Dig y a) : (y.cps.toList.map fun c => decide (c ∈ digS.cps.toList)).all id = true := by
  rw [List.all_map]
  refine List.all_eq_true.mpr fun c hc => decide_eq_true ?_
  have h1 : c ∈ TL.numL a := h.tl ▸ hc
  exact dig_mem.mpr (TL.numL_digits a c h1)
theorem Dig.head {y : Str} {a : Nat} (h : Dig y a) : ∃ c, atI y.cps.toList 0 = some c ∧ (c = 48 → a = 0) := by
  have h1 : y.cps.toList = TL.numL a := h.tl
  cases e : TL.numL a with
  | nil => exact absurd e (TL.numL_ne a)
  | cons c r =>
    rw [h1, e]
    refine ⟨c, ?_, numL_head a e⟩
    unfold atI ixN
    rw [if_pos (by decide), if_pos (by rw [List.length_cons]; omega)]
    rfl
theorem c48 {c : Nat} (h : c ≠ 48) : decide ((⟨#[c]⟩ : Str) = "0") = false := decide_eq_false fun e => h (by
  have h1 := congrArg TL.tl e
  rw [show TL.tl (⟨#[c]⟩ : Str) = [c] from rfl, show TL.tl ("0" : Str) = [48] by decide +kernel] at h1
  exact (List.cons.inj h1).1)
theorem len1 {y : Str} {c : Nat} {r : List Nat} (h : TL.tl y = c :: r) : 1 ≤ y.length := by
  rw [TL.len_tl, h, List.length_cons]
  omega
theorem nonneg_cut {k : Nat} : decide (cutS (isS (k : Int)) none (some 1) = "-") = false := decide_eq_false fun e => by
  have h0 := isS_nat k
  cases en : TL.numL k with
  | nil => exact TL.numL_ne k en
  | cons c r =>
    rw [en] at h0
    have h1 := tl_cut1 (isS (k : Int)) (len1 h0)
    rw [e, h0, show TL.tl ("-" : Str) = [45] by decide +kernel] at h1
    have h2 : 45 = c := (List.cons.inj h1).1
    exact TL.numL_free (n := k) (s := 45) (by omega) (by rw [en, ← h2]; exact List.mem_cons_self)
theorem neg_cut {k : Nat} : decide (cutS (isS (Int.negSucc k)) none (some 1) = "-") = true := decide_eq_true (TL.ext_tl (by
  rw [tl_cut1 _ (len1 (isS_neg k)), isS_neg, show TL.tl ("-" : Str) = [45] by decide +kernel]
  rfl))
theorem neg_dig {k : Nat} : Dig (cutS (isS (Int.negSucc k)) (some 1) none) (k + 1) := ⟨by
  rw [tl_rest1 _ (len1 (isS_neg k)), isS_neg]
  rfl⟩
theorem nat_dig {k : Nat} : Dig (isS (k : Int)) k := ⟨isS_nat k⟩
theorem zero_is : isS (0 : Int) = "0" := by decide +kernel
def S_numsIn : DS := fun ds M Φ => ∃ (ns : List Int) (many : Int), ds = [.lst (ns.map fun n => .str (isS n)), .int many] ∧ many = (ns.length : Int) ∧ ns.length ≤ 10 ∧ (∀ n, n ∈ ns → -1000 ≤ n ∧ n ≤ 1000) ∧ Φ (.lst (ns.map D.int)) M
theorem none_ints : ∀ ns : List Int, (pys (ns.map D.int)).any (fun z => PyData.eqv z (py .non)) = false
  | [] => rfl
  | n :: ns => by
    show (false || (pys (ns.map D.int)).any fun z => PyData.eqv z (py .non)) = false
    rw [none_ints ns]
    rfl
def S_sizeIn : DS := fun ds M Φ => ∃ a b : Int, ds = [.str (yardT a b)] ∧ (0 < a ∧ a ≤ 1000) ∧ (0 < b ∧ b ≤ 1000) ∧ Φ (tp a b) M
def S_slipsIn : DS := fun ds M Φ => ∃ a b c : Int, ds = [.str (slipT a b c)] ∧ (0 ≤ a ∧ a ≤ 1000) ∧ (0 ≤ b ∧ b ≤ 1000) ∧ (0 ≤ c ∧ c ≤ 1000) ∧ Φ (.tup [.int a, .int b, .int c]) M
def S_thingR (CR : Addr) : DS := fun ds M Φ => ∃ r : RT, ds = [.str (txR r)] ∧ RmOk r ∧ LsB r.last ∧ Φ (gR CR "barred" r) M
def S_thingM (CM : Addr) : DS := fun ds M Φ => ∃ r : RT, ds = [.str (txM r)] ∧ RmOk r ∧ LsI r.last ∧ Φ (gR CM "blur" r) M
theorem split_Y {a b : Int} : Txt.split (yardT a b) " " = [("yard" : Str), isS a, isS b] := spJ_split (by simp) fun p hp => by
  simp only [List.mem_cons, List.not_mem_nil, or_false] at hp
  rcases hp with rfl | rfl | rfl
  · decide +kernel
  all_goals exact isS_sp
theorem split_S {a b c : Int} : Txt.split (slipT a b c) " " = [("slip" : Str), isS a, isS b, isS c] := spJ_split (by simp) fun p hp => by
  simp only [List.mem_cons, List.not_mem_nil, or_false] at hp
  rcases hp with rfl | rfl | rfl | rfl
  · decide +kernel
  all_goals exact isS_sp
theorem split_R {bd : Bool} {nm : Str} {a b c e : Int} (hn : noSp nm) : Txt.split (roomT bd nm a b c e) " " = [(if bd then "barred" else "room" : Str), nm, isS a, isS b, isS c, isS e] := spJ_split (by simp) (parts_sp word_sp hn)
theorem split_M {nm : Str} {a b c e f : Int} (hn : noSp nm) : Txt.split (markT nm a b c e f) " " = [("mark" : Str), nm, isS a, isS b, isS c, isS e, isS f] := spJ_split (by simp) (parts_sp7 hn)
theorem blank1 : ((" " : Str).length == 0) = false := by decide +kernel
theorem nline1 : (("\n" : Str).length == 0) = false := by decide +kernel
abbrev s_number_in : Stmt := top 16
theorem sc_number_in : FnScope ["text", "digits", "sign"] ["text"] (defScope s_number_in) := ⟨rfl, rfl, rfl, by decide +kernel, rfl, by decide +kernel, by decide +kernel⟩
theorem ok_number_in {f : Addr} {fd : FuncData} (F : FunD K "number_in" "number_in" (defArgs s_number_in) (defBody s_number_in) (defScope s_number_in) [] [] f fd) (B : Bf mg) (hDg : ∃ t, mg "DIGITS" = some (.str digS t)) : FnOk P w K mg base CX0 1 f fd ["text"] (spOf K S_numIn) := by
  refine fn_data (k := 0) F sc_number_in (fun ds M Φ h => ?_) (fun cdv A outer s H E ds M Φ hr h => ?_)
  · obtain ⟨n, rfl, hs, q⟩ := h
    all_goals rfl
  · obtain ⟨n, rfl, hs, q⟩ := h
    have hl0 := sm_len hs
    have h5 : sizeLine = 2 ^ 24 := rfl
    have hzlen : (isS n).length ≤ sizeLine := by omega
    have hcs : (∃ k : Nat, n = (k : Int)) ∨ ∃ k : Nat, n = Int.negSucc k := by
      cases n with
      | ofNat k => exact .inl ⟨k, rfl⟩
      | negSucc k => exact .inr ⟨k, rfl⟩
    rcases hcs with ⟨k, rfl⟩ | ⟨k, rfl⟩
    · skip
      have hdg : Dig (isS (k : Int)) k := nat_dig
      have hylen : (isS (k : Int)).cps.size < sizeLine := Nat.lt_of_le_of_lt hl0 (by omega)
      obtain ⟨c, hat, hc0⟩ := hdg.head
      by_cases hc : c = 48
      · have hk0 : (k : Int) = 0 := by have := hc0 hc; omega
        have hc9 : decide ((⟨#[c]⟩ : Str) = "0") = true := by rw [hc]; decide +kernel
        refine ws_set 1 sc_number_in.nd ?_
        refine we_if ?_
        refine wt_cmp ?_ (nomark _)
        refine we_slS ?_
        refine wv 0 rfl ?_
        refine wo_none ?_
        refine wo_some ?_
        refine we_int ?_
        refine ⟨_, rfl, ?_⟩
        refine ⟨_, rfl, hzlen, ?_⟩
        refine we_str ?_
        refine od_eqS ?_
        rw [nonneg_cut]
        refine ⟨_, rfl, ?_⟩
        refine ⟨fun hb => ?_, fun hb => ?_⟩
        · walk_at "dead"
        · walk_at "tidy"
          refine wv 0 rfl ?_
          refine ws_if ?_
          refine wt_bool ?_
          refine ww_or ?_
          refine wt_cmp ?_ (nomark _)
          refine wv 1 rfl ?_
          refine we_str ?_
          refine od_eqS ?_
          rw [hdg.ne]
          refine ⟨_, rfl, ?_⟩
          refine ⟨fun hb => ?_, fun hb => ?_⟩
          · walk_at "dead"
          · walk_at "tidy"
            refine ww_or1 ?_
            refine wt_not ?_
            refine wt_val ?_ (by intro _; rfl)
            refine wcB B.all bt_all ?_
            refine wa_cons ?_
            refine lcMapS (own := [("sign", 2)]) (j := 2) sc_number_in.nd ?_ (blkOk_by (N := ["text", "digits", "sign"]) (sc := defScope s_number_in) (by decide +kernel)) (fun _ _ _ _ _ => pg_name (i := 2) sc_number_in.nd rfl (Or.inl rfl))
            refine wv 1 rfl ?_
            refine ⟨_, fun c => .bl (decide (c ∈ digS.cps.toList)), rfl, hylen, fun c hc l out s H C cl fp => ?_, ?_⟩
            · refine we_cmp ?_ (by rfl)
              refine wv 2 rfl ?_
              refine we_gstr hDg ?_
              refine od_inSign ?_
              exact ⟨rfl, rfl⟩
            rw [show ((isS (k : Int)).cps.toList.map fun c => D.bl (decide (c ∈ digS.cps.toList))) = ((isS (k : Int)).cps.toList.map fun c => decide (c ∈ digS.cps.toList)).map D.bl by rw [List.map_map]; rfl]
            refine wa_nil ?_
            refine cd_all rfl ?_
            rw [hdg.all]
            walk_at "truth"
            refine ⟨fun hb => ?_, fun hb => ?_⟩
            · walk_at "dead"
            · walk_at "tidy"
              refine ws_nil ?_
              refine ws_if ?_
              refine wt_bool ?_
              refine ww_and ?_
              refine wt_cmp ?_ (nomark _)
              refine we_ix ?_ (fun _ _ => rfl)
              refine wv 1 rfl ?_
              refine we_int ?_
              refine ix_strI (Nat.le_of_lt hylen) hat ?_
              refine we_str ?_
              refine od_eqS ?_
              rw [hc9]
              refine ⟨_, rfl, ?_⟩
              refine ⟨fun hb => ?_, fun hb => ?_⟩
              · walk_at "tidy"
                refine ww_and1 ?_
                refine wt_cmp ?_ (nomark _)
                refine wv 0 rfl ?_
                refine we_str ?_
                refine od_neS ?_
                rw [show decide (isS (k : Int) = "0") = true from decide_eq_true (by rw [hk0]; exact zero_is)]
                refine ⟨_, rfl, ?_⟩
                refine ⟨fun hb => ?_, fun hb => ?_⟩
                · walk_at "dead"
                · walk_at "tidy"
                  refine ws_nil ?_
                  refine ws_ret ?_
                  refine wcT B.int boot_int ?_
                  refine wa_cons ?_
                  refine wv 0 rfl ?_
                  refine wa_nil ?_
                  refine cd_intS (isS_int hs) (by omega) ?_
                  exact q
              · walk_at "dead"
      · skip
        refine ws_set 1 sc_number_in.nd ?_
        refine we_if ?_
        refine wt_cmp ?_ (nomark _)
        refine we_slS ?_
        refine wv 0 rfl ?_
        refine wo_none ?_
        refine wo_some ?_
        refine we_int ?_
        refine ⟨_, rfl, ?_⟩
        refine ⟨_, rfl, hzlen, ?_⟩
        refine we_str ?_
        refine od_eqS ?_
        rw [nonneg_cut]
        refine ⟨_, rfl, ?_⟩
        refine ⟨fun hb => ?_, fun hb => ?_⟩
        · walk_at "dead"
        · walk_at "tidy"
          refine wv 0 rfl ?_
          refine ws_if ?_
          refine wt_bool ?_
          refine ww_or ?_
          refine wt_cmp ?_ (nomark _)
          refine wv 1 rfl ?_
          refine we_str ?_
          refine od_eqS ?_
          rw [hdg.ne]
          refine ⟨_, rfl, ?_⟩
          refine ⟨fun hb => ?_, fun hb => ?_⟩
          · walk_at "dead"
          · walk_at "tidy"
            refine ww_or1 ?_
            refine wt_not ?_
            refine wt_val ?_ (by intro _; rfl)
            refine wcB B.all bt_all ?_
            refine wa_cons ?_
            refine lcMapS (own := [("sign", 2)]) (j := 2) sc_number_in.nd ?_ (blkOk_by (N := ["text", "digits", "sign"]) (sc := defScope s_number_in) (by decide +kernel)) (fun _ _ _ _ _ => pg_name (i := 2) sc_number_in.nd rfl (Or.inl rfl))
            refine wv 1 rfl ?_
            refine ⟨_, fun c => .bl (decide (c ∈ digS.cps.toList)), rfl, hylen, fun c hc l out s H C cl fp => ?_, ?_⟩
            · refine we_cmp ?_ (by rfl)
              refine wv 2 rfl ?_
              refine we_gstr hDg ?_
              refine od_inSign ?_
              exact ⟨rfl, rfl⟩
            rw [show ((isS (k : Int)).cps.toList.map fun c => D.bl (decide (c ∈ digS.cps.toList))) = ((isS (k : Int)).cps.toList.map fun c => decide (c ∈ digS.cps.toList)).map D.bl by rw [List.map_map]; rfl]
            refine wa_nil ?_
            refine cd_all rfl ?_
            rw [hdg.all]
            walk_at "truth"
            refine ⟨fun hb => ?_, fun hb => ?_⟩
            · walk_at "dead"
            · walk_at "tidy"
              refine ws_nil ?_
              refine ws_if ?_
              refine wt_bool ?_
              refine ww_and ?_
              refine wt_cmp ?_ (nomark _)
              refine we_ix ?_ (fun _ _ => rfl)
              refine wv 1 rfl ?_
              refine we_int ?_
              refine ix_strI (Nat.le_of_lt hylen) hat ?_
              refine we_str ?_
              refine od_eqS ?_
              rw [c48 hc]
              refine ⟨_, rfl, ?_⟩
              refine ⟨fun hb => ?_, fun hb => ?_⟩
              · walk_at "dead"
              · walk_at "tidy"
                refine ⟨fun hb => ?_, fun hb => ?_⟩
                · walk_at "dead"
                · walk_at "tidy"
                  refine ws_nil ?_
                  refine ws_ret ?_
                  refine wcT B.int boot_int ?_
                  refine wa_cons ?_
                  refine wv 0 rfl ?_
                  refine wa_nil ?_
                  refine cd_intS (isS_int hs) (by omega) ?_
                  exact q
    · skip
      have hdg : Dig (cutS (isS (Int.negSucc k)) (some 1) none) (k + 1) := neg_dig
      have hylen : (cutS (isS (Int.negSucc k)) (some 1) none).cps.size < sizeLine := Nat.lt_of_le_of_lt (cutS_length _ _ _) (by omega)
      obtain ⟨c, hat, hc0⟩ := hdg.head
      have hc : c ≠ 48 := fun e => by have := hc0 e; omega
      refine ws_set 1 sc_number_in.nd ?_
      refine we_if ?_
      refine wt_cmp ?_ (nomark _)
      refine we_slS ?_
      refine wv 0 rfl ?_
      refine wo_none ?_
      refine wo_some ?_
      refine we_int ?_
      refine ⟨_, rfl, ?_⟩
      refine ⟨_, rfl, hzlen, ?_⟩
      refine we_str ?_
      refine od_eqS ?_
      rw [neg_cut]
      refine ⟨_, rfl, ?_⟩
      refine ⟨fun hb => ?_, fun hb => ?_⟩
      · walk_at "tidy"
        refine we_slS ?_
        refine wv 0 rfl ?_
        refine wo_some ?_
        refine we_int ?_
        refine ⟨_, rfl, ?_⟩
        refine wo_none ?_
        refine ⟨_, rfl, hzlen, ?_⟩
        refine ws_if ?_
        refine wt_bool ?_
        refine ww_or ?_
        refine wt_cmp ?_ (nomark _)
        refine wv 1 rfl ?_
        refine we_str ?_
        refine od_eqS ?_
        rw [hdg.ne]
        refine ⟨_, rfl, ?_⟩
        refine ⟨fun hb => ?_, fun hb => ?_⟩
        · walk_at "dead"
        · walk_at "tidy"
          refine ww_or1 ?_
          refine wt_not ?_
          refine wt_val ?_ (by intro _; rfl)
          refine wcB B.all bt_all ?_
          refine wa_cons ?_
          refine lcMapS (own := [("sign", 2)]) (j := 2) sc_number_in.nd ?_ (blkOk_by (N := ["text", "digits", "sign"]) (sc := defScope s_number_in) (by decide +kernel)) (fun _ _ _ _ _ => pg_name (i := 2) sc_number_in.nd rfl (Or.inl rfl))
          refine wv 1 rfl ?_
          refine ⟨_, fun c => .bl (decide (c ∈ digS.cps.toList)), rfl, hylen, fun c hc l out s H C cl fp => ?_, ?_⟩
          · refine we_cmp ?_ (by rfl)
            refine wv 2 rfl ?_
            refine we_gstr hDg ?_
            refine od_inSign ?_
            exact ⟨rfl, rfl⟩
          rw [show ((cutS (isS (Int.negSucc k)) (some 1) none).cps.toList.map fun c => D.bl (decide (c ∈ digS.cps.toList))) = ((cutS (isS (Int.negSucc k)) (some 1) none).cps.toList.map fun c => decide (c ∈ digS.cps.toList)).map D.bl by rw [List.map_map]; rfl]
          refine wa_nil ?_
          refine cd_all rfl ?_
          rw [hdg.all]
          walk_at "truth"
          refine ⟨fun hb => ?_, fun hb => ?_⟩
          · walk_at "dead"
          · walk_at "tidy"
            refine ws_nil ?_
            refine ws_if ?_
            refine wt_bool ?_
            refine ww_and ?_
            refine wt_cmp ?_ (nomark _)
            refine we_ix ?_ (fun _ _ => rfl)
            refine wv 1 rfl ?_
            refine we_int ?_
            refine ix_strI (Nat.le_of_lt hylen) hat ?_
            refine we_str ?_
            refine od_eqS ?_
            rw [c48 hc]
            refine ⟨_, rfl, ?_⟩
            refine ⟨fun hb => ?_, fun hb => ?_⟩
            · walk_at "dead"
            · walk_at "tidy"
              refine ⟨fun hb => ?_, fun hb => ?_⟩
              · walk_at "dead"
              · walk_at "tidy"
                refine ws_nil ?_
                refine ws_ret ?_
                refine wcT B.int boot_int ?_
                refine wa_cons ?_
                refine wv 0 rfl ?_
                refine wa_nil ?_
                refine cd_intS (isS_int hs) (by omega) ?_
                exact q
      · walk_at "dead"
abbrev s_numbers_in : Stmt := top 17
theorem sc_numbers_in : FnScope ["words", "many", "found", "word"] ["words", "many"] (defScope s_numbers_in) := ⟨rfl, rfl, rfl, by decide +kernel, rfl, by decide +kernel, by decide +kernel⟩
theorem ok_numbers_in {f : Addr} {fd : FuncData} (F : FunD K "numbers_in" "numbers_in" (defArgs s_numbers_in) (defBody s_numbers_in) (defScope s_numbers_in) [] [] f fd) (B : Bf mg) (hN : HasFn P w K mg base 1 "number_in" S_numIn) : FnOk P w K mg base CX0 2 f fd ["words", "many"] (spOf K S_numsIn) := by
  refine fn_data (k := 1) F sc_numbers_in (fun ds M Φ h => ?_) (fun cdv A outer s H E ds M Φ hr h => ?_)
  · obtain ⟨ns, many, rfl, hm, hl, hb9, q⟩ := h
    all_goals rfl
  · obtain ⟨ns, many, rfl, hm, hl, hb9, q⟩ := h
    refine ws_mapL (own := [("word", 3)]) 2 sc_numbers_in.nd (tg_name (j := 3) (by decide)) ?_ (blkOk_by (N := ["words", "many", "found", "word"]) (sc := defScope s_numbers_in) (by decide +kernel)) (fun _ _ _ _ _ => pg_name (i := 3) sc_numbers_in.nd rfl (Or.inl rfl))
    refine wv 0 rfl ?_
    refine ⟨_, ns, fun n => .str (isS n), fun _ => true, D.int, rfl, ⟨(by have h5 : sizeLine = 2 ^ 24 := rfl; omega), fun _ _ => trivial, fun a9 ha9 l9 out s H C9 cl fp => ?_, fun a9 ha9 hp9 l9 out s H C9 cl fp => ?_⟩, fun l9 => ?_⟩
    · exact wts_nil ⟨rfl, rfl⟩
    · skip
      refine wcf hN (hr.mono (by decide)) ?_
      refine wa_cons ?_
      refine wv 3 rfl ?_
      refine wa_nil ?_
      refine ⟨a9, rfl, sm_of (hb9 a9 ha9).1 (hb9 a9 ha9).2, ?_⟩
      exact ⟨rfl, rfl⟩
    refine ws_freeze (i := 2) rfl ?_
    rw [filt_true]
    refine ws_ret ?_
    refine we_if ?_
    refine wt_bool ?_
    refine ww_or ?_
    refine wt_cmp ?_ (nomark _)
    refine wcB B.len boot_len ?_
    refine wa_cons ?_
    refine wv 2 rfl ?_
    refine wa_nil ?_
    refine cd_len_lst ?_
    refine wv 1 rfl ?_
    refine od_neF (by rw [List.length_map]; exact hm.symm) ?_
    refine ⟨_, rfl, ?_⟩
    refine ⟨fun hb => ?_, fun hb => ?_⟩
    · walk_at "dead"
    · walk_at "tidy"
      refine ww_or1 ?_
      refine wt_cmp ?_ (by rfl)
      refine we_non ?_
      refine wv 2 rfl ?_
      refine od_inLD hr.u65 rfl (shp_is ns) (.inl rfl) ?_
      rw [none_ints]
      refine ⟨_, rfl, ?_⟩
      refine ⟨fun hb => ?_, fun hb => ?_⟩
      · walk_at "dead"
      · walk_at "tidy"
        refine wv 2 rfl ?_
        exact q
abbrev s_size_in : Stmt := top 29
theorem sc_size_in : FnScope ["line", "words", "numbers"] ["line"] (defScope s_size_in) := ⟨rfl, rfl, rfl, by decide +kernel, rfl, by decide +kernel, by decide +kernel⟩
theorem ok_size_in {f : Addr} {fd : FuncData} (F : FunD K "size_in" "size_in" (defArgs s_size_in) (defBody s_size_in) (defScope s_size_in) [] [] f fd) (B : Bf mg) (hNs : HasFn P w K mg base 2 "numbers_in" S_numsIn) (hSz : HasFn P w K mg base 3 "is_size" S_is_size) : FnOk P w K mg base CX0 4 f fd ["line"] (spOf K S_sizeIn) := by
  refine fn_data (k := 3) F sc_size_in (fun ds M Φ h => ?_) (fun cdv A outer s H E ds M Φ hr h => ?_)
  · obtain ⟨a, b, rfl, ha, hb0, q⟩ := h
    all_goals rfl
  · obtain ⟨a, b, rfl, ha, hb0, q⟩ := h
    have h5 : sizeLine = 2 ^ 24 := rfl
    have hl9 := lenY ha hb0
    have hb9 : ∀ n, n ∈ [a, b] → -1000 ≤ n ∧ n ≤ 1000 := fun n hn => by
      simp only [List.mem_cons, List.not_mem_nil, or_false] at hn
      rcases hn with rfl | rfl <;> omega
    obtain ⟨⟨t9, u1, u2, u3⟩, u4⟩ := sz_ok (c := (a, b)) ⟨ha.1, hb0.1⟩
    refine ws_set 1 sc_size_in.nd ?_
    refine we_split ?_
    refine wv 0 rfl ?_
    refine ⟨_, rfl, (by omega), ?_⟩
    refine we_str ?_
    refine ⟨_, rfl, blank1, ?_⟩
    rw [split_Y]
    refine ws_wk (Γ' := [some (.str (yardT a b)), some (.lst [.str "yard", .str (isS a), .str (isS b)]), none]) (M' := M) (by repeat (first | exact wkE | refine wkS ?_ | refine wkN ?_)) (List.Sublist.refl _) ?_
    refine ws_set 2 sc_size_in.nd ?_
    refine wcf hNs (hr.mono (by decide)) ?_
    refine wa_cons ?_
    refine we_frz ?_
    refine we_slO ?_
    refine wv 1 rfl ?_
    refine wo_some ?_
    refine we_int ?_
    refine ⟨_, rfl, ?_⟩
    refine wo_none ?_
    refine ⟨_, .inl rfl, fun l9 => ⟨l9, _, _, rfl, rfl, ?_⟩⟩
    refine wa_cons ?_
    refine we_int ?_
    refine wa_nil ?_
    refine ⟨[a, b], _, rfl, rfl, of_decide_eq_true rfl, hb9, ?_⟩
    refine ws_if ?_
    refine wt_bool ?_
    refine ww_or ?_
    refine wt_cmp ?_ (nomark _)
    refine we_ix ?_ (fun _ _ => rfl)
    refine wv 1 rfl ?_
    refine we_int ?_
    refine ix_lst (j := 0) rfl rfl ?_
    refine we_str ?_
    refine od_neS ?_
    rw [decide_eq_true rfl]
    refine ⟨_, rfl, ?_⟩
    refine ⟨fun hb => ?_, fun hb => ?_⟩
    · walk_at "dead"
    · walk_at "tidy"
      refine ww_or ?_
      refine wt_cmp ?_ (nomark _)
      refine wv 2 rfl ?_
      refine we_non ?_
      refine od_is ?_
      refine ⟨_, rfl, ?_⟩
      refine ⟨fun hb => ?_, fun hb => ?_⟩
      · walk_at "dead"
      · walk_at "tidy"
        refine ww_or1 ?_
        refine wt_not ?_
        refine wt_val ?_ (by intro _; rfl)
        refine wcf hSz (hr.mono (by decide)) ?_
        refine wa_cons ?_
        refine wcT B.tuple boot_tuple ?_
        refine wa_cons ?_
        refine wv 2 rfl ?_
        refine wa_nil ?_
        refine cd_tuple (.inl rfl) ?_
        refine wa_nil ?_
        refine ⟨_, _, rfl, u1, u2, u3, ?_⟩
        rw [show sizeOk (.tup ([a, b].map D.int)) = true from u4]
        walk_at "truth"
        refine ⟨fun hb => ?_, fun hb => ?_⟩
        · walk_at "dead"
        · walk_at "tidy"
          refine ws_nil ?_
          refine ws_ret ?_
          refine wcT B.tuple boot_tuple ?_
          refine wa_cons ?_
          refine wv 2 rfl ?_
          refine wa_nil ?_
          refine cd_tuple (.inl rfl) ?_
          exact q
abbrev s_slips_in : Stmt := top 30
theorem sc_slips_in : FnScope ["line", "words", "numbers"] ["line"] (defScope s_slips_in) := ⟨rfl, rfl, rfl, by decide +kernel, rfl, by decide +kernel, by decide +kernel⟩
theorem ok_slips_in {f : Addr} {fd : FuncData} (F : FunD K "slips_in" "slips_in" (defArgs s_slips_in) (defBody s_slips_in) (defScope s_slips_in) [] [] f fd) (B : Bf mg) (hNs : HasFn P w K mg base 2 "numbers_in" S_numsIn) (hSz : HasFn P w K mg base 3 "are_slips" S_are_slips) : FnOk P w K mg base CX0 4 f fd ["line"] (spOf K S_slipsIn) := by
  refine fn_data (k := 3) F sc_slips_in (fun ds M Φ h => ?_) (fun cdv A outer s H E ds M Φ hr h => ?_)
  · obtain ⟨a, b, c, rfl, ha, hb0, hc0, q⟩ := h
    all_goals rfl
  · obtain ⟨a, b, c, rfl, ha, hb0, hc0, q⟩ := h
    have h5 : sizeLine = 2 ^ 24 := rfl
    have hl9 := lenS ha hb0 hc0
    have hb9 : ∀ n, n ∈ [a, b, c] → -1000 ≤ n ∧ n ≤ 1000 := fun n hn => by
      simp only [List.mem_cons, List.not_mem_nil, or_false] at hn
      rcases hn with rfl | rfl | rfl <;> omega
    obtain ⟨⟨t9, u1, u2, u3⟩, u4⟩ := sl_ok ha.1 hb0.1 hc0.1
    refine ws_set 1 sc_slips_in.nd ?_
    refine we_split ?_
    refine wv 0 rfl ?_
    refine ⟨_, rfl, (by omega), ?_⟩
    refine we_str ?_
    refine ⟨_, rfl, blank1, ?_⟩
    rw [split_S]
    refine ws_wk (Γ' := [some (.str (slipT a b c)), some (.lst [.str "slip", .str (isS a), .str (isS b), .str (isS c)]), none]) (M' := M) (by repeat (first | exact wkE | refine wkS ?_ | refine wkN ?_)) (List.Sublist.refl _) ?_
    refine ws_set 2 sc_slips_in.nd ?_
    refine wcf hNs (hr.mono (by decide)) ?_
    refine wa_cons ?_
    refine we_frz ?_
    refine we_slO ?_
    refine wv 1 rfl ?_
    refine wo_some ?_
    refine we_int ?_
    refine ⟨_, rfl, ?_⟩
    refine wo_none ?_
    refine ⟨_, .inl rfl, fun l9 => ⟨l9, _, _, rfl, rfl, ?_⟩⟩
    refine wa_cons ?_
    refine we_int ?_
    refine wa_nil ?_
    refine ⟨[a, b, c], _, rfl, rfl, of_decide_eq_true rfl, hb9, ?_⟩
    refine ws_if ?_
    refine wt_bool ?_
    refine ww_or ?_
    refine wt_cmp ?_ (nomark _)
    refine we_ix ?_ (fun _ _ => rfl)
    refine wv 1 rfl ?_
    refine we_int ?_
    refine ix_lst (j := 0) rfl rfl ?_
    refine we_str ?_
    refine od_neS ?_
    rw [decide_eq_true rfl]
    refine ⟨_, rfl, ?_⟩
    refine ⟨fun hb => ?_, fun hb => ?_⟩
    · walk_at "dead"
    · walk_at "tidy"
      refine ww_or ?_
      refine wt_cmp ?_ (nomark _)
      refine wv 2 rfl ?_
      refine we_non ?_
      refine od_is ?_
      refine ⟨_, rfl, ?_⟩
      refine ⟨fun hb => ?_, fun hb => ?_⟩
      · walk_at "dead"
      · walk_at "tidy"
        refine ww_or1 ?_
        refine wt_not ?_
        refine wt_val ?_ (by intro _; rfl)
        refine wcf hSz (hr.mono (by decide)) ?_
        refine wa_cons ?_
        refine wcT B.tuple boot_tuple ?_
        refine wa_cons ?_
        refine wv 2 rfl ?_
        refine wa_nil ?_
        refine cd_tuple (.inl rfl) ?_
        refine wa_nil ?_
        refine ⟨_, _, rfl, u1, u2, u3, ?_⟩
        rw [show slipsOk (.tup ([a, b, c].map D.int)) = true from u4]
        walk_at "truth"
        refine ⟨fun hb => ?_, fun hb => ?_⟩
        · walk_at "dead"
        · walk_at "tidy"
          refine ws_nil ?_
          refine ws_ret ?_
          refine wcT B.tuple boot_tuple ?_
          refine wa_cons ?_
          refine wv 2 rfl ?_
          refine wa_nil ?_
          refine cd_tuple (.inl rfl) ?_
          exact q
abbrev s_thing_in : Stmt := top 31
theorem sc_thing_in : FnScope ["line", "words", "numbers"] ["line"] (defScope s_thing_in) := ⟨rfl, rfl, rfl, by decide +kernel, rfl, by decide +kernel, by decide +kernel⟩
theorem ok_thing_inR {f : Addr} {fd : FuncData} (F : FunD K "thing_in" "thing_in" (defArgs s_thing_in) (defBody s_thing_in) (defScope s_thing_in) [] [] f fd) (B : Bf mg) (hNs : HasFn P w K mg base 2 "numbers_in" S_numsIn) {C : Addr} (hRoom : HasMk P w K mg base 6 C "Room" (S_room C)) : FnOk P w K mg base CX0 8 f fd ["line"] (spOf K (S_thingR C)) := by
  refine fn_data (k := 7) F sc_thing_in (fun ds M Φ h => ?_) (fun cdv A outer s H E ds M Φ hr h => ?_)
  · obtain ⟨r, rfl, hk, hl, q⟩ := h
    all_goals rfl
  · obtain ⟨r, rfl, hk, hl, q⟩ := h
    have h5 : sizeLine = 2 ^ 24 := rfl
    have hl9 := lenR hk hl
    obtain ⟨nm9, x9, y9, u9, v9, la9⟩ := r
    obtain ⟨b9, hb9⟩ := hl
    cases hb9
    have hb7 : ∀ n, n ∈ [x9, y9, u9, v9] → -1000 ≤ n ∧ n ≤ 1000 := fun n hn => by
      obtain ⟨_, k2, k3, k4, k5, k6, k7⟩ := hk
      simp only at k2 k3 k4 k5 k6 k7
      simp only [List.mem_cons, List.not_mem_nil, or_false] at hn
      rcases hn with rfl | rfl | rfl | rfl <;> omega
    cases b9
    · rw [show txR ⟨nm9, x9, y9, u9, v9, .bl false⟩ = roomT false nm9 x9 y9 u9 v9 from rfl] at hl9 ⊢
      refine ws_set 1 sc_thing_in.nd ?_
      refine we_split ?_
      refine wv 0 rfl ?_
      refine ⟨_, rfl, (by omega), ?_⟩
      refine we_str ?_
      refine ⟨_, rfl, blank1, ?_⟩
      rw [split_R (nameOk_sp hk.nm.ok)]
      refine ws_wk (Γ' := [some (.str (roomT false nm9 x9 y9 u9 v9)), some (.lst [.str "room", .str nm9, .str (isS x9), .str (isS y9), .str (isS u9), .str (isS v9)]), none]) (M' := M) (by repeat (first | exact wkE | refine wkS ?_ | refine wkN ?_)) (List.Sublist.refl _) ?_
      refine ws_set 2 sc_thing_in.nd ?_
      refine wcf hNs (hr.mono (by decide)) ?_
      refine wa_cons ?_
      refine we_frz ?_
      refine we_slO ?_
      refine wv 1 rfl ?_
      refine wo_some ?_
      refine we_int ?_
      refine ⟨_, rfl, ?_⟩
      refine wo_none ?_
      refine ⟨_, .inl rfl, fun l9 => ⟨l9, _, _, rfl, rfl, ?_⟩⟩
      refine wa_cons ?_
      refine we_if ?_
      refine wt_cmp ?_ (nomark _)
      refine we_ix ?_ (fun _ _ => rfl)
      refine wv 1 rfl ?_
      refine we_int ?_
      refine ix_lst (j := 0) rfl rfl ?_
      refine we_str ?_
      refine od_eqS ?_
      rw [show decide (("room" : Str) = "mark") = false by decide +kernel]
      refine ⟨_, rfl, ?_⟩
      refine ⟨fun hb => ?_, fun hb => ?_⟩
      · walk_at "dead"
      · walk_at "tidy"
        refine we_int ?_
        refine wa_nil ?_
        refine ⟨[x9, y9, u9, v9], _, rfl, rfl, of_decide_eq_true rfl, hb7, ?_⟩
        refine ws_if ?_
        refine wt_bool ?_
        refine ww_or ?_
        refine wt_cmp ?_ (by rfl)
        refine we_ix ?_ (fun _ _ => rfl)
        refine wv 1 rfl ?_
        refine we_int ?_
        refine ix_lst (j := 0) rfl rfl ?_
        refine we_tup ?_
        refine wa_cons ?_
        refine we_str ?_
        refine wa_cons ?_
        refine we_str ?_
        refine wa_cons ?_
        refine we_str ?_
        refine wa_nil ?_
        refine ⟨(by walk_at "size"), ?_⟩
        refine od_niTS (zs := ["room", "barred", "mark"]) ?_
        rw [show decide (("room" : Str) ∈ (["room", "barred", "mark"] : List Str)) = true by decide +kernel]
        refine ⟨_, rfl, ?_⟩
        refine ⟨fun hb => ?_, fun hb => ?_⟩
        · walk_at "dead"
        · walk_at "tidy"
          refine ww_or1 ?_
          refine wt_cmp ?_ (nomark _)
          refine wv 2 rfl ?_
          refine we_non ?_
          refine od_is ?_
          refine ⟨_, rfl, ?_⟩
          refine ⟨fun hb => ?_, fun hb => ?_⟩
          · walk_at "dead"
          · walk_at "tidy"
            refine ws_nil ?_
            refine ws_cons (w1_thru ?_)
            refine ws_if ?_
            refine wt_cmp ?_ (nomark _)
            refine we_ix ?_ (fun _ _ => rfl)
            refine wv 1 rfl ?_
            refine we_int ?_
            refine ix_lst (j := 0) rfl rfl ?_
            refine we_str ?_
            refine od_eqS ?_
            rw [show decide (("room" : Str) = "mark") = false by decide +kernel]
            refine ⟨_, rfl, ?_⟩
            refine ⟨fun hb => ?_, fun hb => ?_⟩
            · walk_at "dead"
            · walk_at "tidy"
              refine ws_nil ?_
              refine ws_ret ?_
              refine wmk hRoom (hr.mono (by decide)) ?_
              refine wa_cons ?_
              refine we_ix ?_ (fun _ _ => rfl)
              refine wv 1 rfl ?_
              refine we_int ?_
              refine ix_lst (j := 1) rfl rfl ?_
              refine wa_cons ?_
              refine wcT B.tuple boot_tuple ?_
              refine wa_cons ?_
              refine we_frz ?_
              refine we_slO ?_
              refine wv 2 rfl ?_
              refine wo_none ?_
              refine wo_some ?_
              refine we_int ?_
              refine ⟨_, rfl, ?_⟩
              refine ⟨_, .inl rfl, fun l9 => ⟨l9, _, _, rfl, rfl, ?_⟩⟩
              refine wa_nil ?_
              refine cd_tuple (.inl rfl) ?_
              refine wa_cons ?_
              refine wcT B.tuple boot_tuple ?_
              refine wa_cons ?_
              refine we_frz ?_
              refine we_slO ?_
              refine wv 2 rfl ?_
              refine wo_some ?_
              refine we_int ?_
              refine ⟨_, rfl, ?_⟩
              refine wo_some ?_
              refine we_int ?_
              refine ⟨_, rfl, ?_⟩
              refine ⟨_, .inl rfl, fun l9 => ⟨l9, _, _, rfl, rfl, ?_⟩⟩
              refine wa_nil ?_
              refine cd_tuple (.inl rfl) ?_
              refine wa_cons ?_
              refine we_cmp ?_ (nomark _)
              refine we_ix ?_ (fun _ _ => rfl)
              refine wv 1 rfl ?_
              refine we_int ?_
              refine ix_lst (j := 0) rfl rfl ?_
              refine we_str ?_
              refine od_eqS ?_
              rw [show decide (("room" : Str) = "barred") = false by decide +kernel]
              refine wa_nil ?_
              intro l8
              refine ⟨l8, nm9, x9, y9, u9, v9, _, _, rfl, hk.nm.ok, hk.nm.ln, hk.xu, hk.yv, rfl, rfl, _, _, rfl, ?_⟩
              exact q
    · rw [show txR ⟨nm9, x9, y9, u9, v9, .bl true⟩ = roomT true nm9 x9 y9 u9 v9 from rfl] at hl9 ⊢
      refine ws_set 1 sc_thing_in.nd ?_
      refine we_split ?_
      refine wv 0 rfl ?_
      refine ⟨_, rfl, (by omega), ?_⟩
      refine we_str ?_
      refine ⟨_, rfl, blank1, ?_⟩
      rw [split_R (nameOk_sp hk.nm.ok)]
      refine ws_wk (Γ' := [some (.str (roomT true nm9 x9 y9 u9 v9)), some (.lst [.str "barred", .str nm9, .str (isS x9), .str (isS y9), .str (isS u9), .str (isS v9)]), none]) (M' := M) (by repeat (first | exact wkE | refine wkS ?_ | refine wkN ?_)) (List.Sublist.refl _) ?_
      refine ws_set 2 sc_thing_in.nd ?_
      refine wcf hNs (hr.mono (by decide)) ?_
      refine wa_cons ?_
      refine we_frz ?_
      refine we_slO ?_
      refine wv 1 rfl ?_
      refine wo_some ?_
      refine we_int ?_
      refine ⟨_, rfl, ?_⟩
      refine wo_none ?_
      refine ⟨_, .inl rfl, fun l9 => ⟨l9, _, _, rfl, rfl, ?_⟩⟩
      refine wa_cons ?_
      refine we_if ?_
      refine wt_cmp ?_ (nomark _)
      refine we_ix ?_ (fun _ _ => rfl)
      refine wv 1 rfl ?_
      refine we_int ?_
      refine ix_lst (j := 0) rfl rfl ?_
      refine we_str ?_
      refine od_eqS ?_
      rw [show decide (("barred" : Str) = "mark") = false by decide +kernel]
      refine ⟨_, rfl, ?_⟩
      refine ⟨fun hb => ?_, fun hb => ?_⟩
      · walk_at "dead"
      · walk_at "tidy"
        refine we_int ?_
        refine wa_nil ?_
        refine ⟨[x9, y9, u9, v9], _, rfl, rfl, of_decide_eq_true rfl, hb7, ?_⟩
        refine ws_if ?_
        refine wt_bool ?_
        refine ww_or ?_
        refine wt_cmp ?_ (by rfl)
        refine we_ix ?_ (fun _ _ => rfl)
        refine wv 1 rfl ?_
        refine we_int ?_
        refine ix_lst (j := 0) rfl rfl ?_
        refine we_tup ?_
        refine wa_cons ?_
        refine we_str ?_
        refine wa_cons ?_
        refine we_str ?_
        refine wa_cons ?_
        refine we_str ?_
        refine wa_nil ?_
        refine ⟨(by walk_at "size"), ?_⟩
        refine od_niTS (zs := ["room", "barred", "mark"]) ?_
        rw [show decide (("barred" : Str) ∈ (["room", "barred", "mark"] : List Str)) = true by decide +kernel]
        refine ⟨_, rfl, ?_⟩
        refine ⟨fun hb => ?_, fun hb => ?_⟩
        · walk_at "dead"
        · walk_at "tidy"
          refine ww_or1 ?_
          refine wt_cmp ?_ (nomark _)
          refine wv 2 rfl ?_
          refine we_non ?_
          refine od_is ?_
          refine ⟨_, rfl, ?_⟩
          refine ⟨fun hb => ?_, fun hb => ?_⟩
          · walk_at "dead"
          · walk_at "tidy"
            refine ws_nil ?_
            refine ws_cons (w1_thru ?_)
            refine ws_if ?_
            refine wt_cmp ?_ (nomark _)
            refine we_ix ?_ (fun _ _ => rfl)
            refine wv 1 rfl ?_
            refine we_int ?_
            refine ix_lst (j := 0) rfl rfl ?_
            refine we_str ?_
            refine od_eqS ?_
            rw [show decide (("barred" : Str) = "mark") = false by decide +kernel]
            refine ⟨_, rfl, ?_⟩
            refine ⟨fun hb => ?_, fun hb => ?_⟩
            · walk_at "dead"
            · walk_at "tidy"
              refine ws_nil ?_
              refine ws_ret ?_
              refine wmk hRoom (hr.mono (by decide)) ?_
              refine wa_cons ?_
              refine we_ix ?_ (fun _ _ => rfl)
              refine wv 1 rfl ?_
              refine we_int ?_
              refine ix_lst (j := 1) rfl rfl ?_
              refine wa_cons ?_
              refine wcT B.tuple boot_tuple ?_
              refine wa_cons ?_
              refine we_frz ?_
              refine we_slO ?_
              refine wv 2 rfl ?_
              refine wo_none ?_
              refine wo_some ?_
              refine we_int ?_
              refine ⟨_, rfl, ?_⟩
              refine ⟨_, .inl rfl, fun l9 => ⟨l9, _, _, rfl, rfl, ?_⟩⟩
              refine wa_nil ?_
              refine cd_tuple (.inl rfl) ?_
              refine wa_cons ?_
              refine wcT B.tuple boot_tuple ?_
              refine wa_cons ?_
              refine we_frz ?_
              refine we_slO ?_
              refine wv 2 rfl ?_
              refine wo_some ?_
              refine we_int ?_
              refine ⟨_, rfl, ?_⟩
              refine wo_some ?_
              refine we_int ?_
              refine ⟨_, rfl, ?_⟩
              refine ⟨_, .inl rfl, fun l9 => ⟨l9, _, _, rfl, rfl, ?_⟩⟩
              refine wa_nil ?_
              refine cd_tuple (.inl rfl) ?_
              refine wa_cons ?_
              refine we_cmp ?_ (nomark _)
              refine we_ix ?_ (fun _ _ => rfl)
              refine wv 1 rfl ?_
              refine we_int ?_
              refine ix_lst (j := 0) rfl rfl ?_
              refine we_str ?_
              refine od_eqS ?_
              rw [show decide (("barred" : Str) = "barred") = true by decide +kernel]
              refine wa_nil ?_
              intro l8
              refine ⟨l8, nm9, x9, y9, u9, v9, _, _, rfl, hk.nm.ok, hk.nm.ln, hk.xu, hk.yv, rfl, rfl, _, _, rfl, ?_⟩
              exact q
theorem ok_thing_inM {f : Addr} {fd : FuncData} (F : FunD K "thing_in" "thing_in" (defArgs s_thing_in) (defBody s_thing_in) (defScope s_thing_in) [] [] f fd) (B : Bf mg) (hNs : HasFn P w K mg base 2 "numbers_in" S_numsIn) {C : Addr} (hMark : HasMk P w K mg base 6 C "Mark" (S_mark C)) : FnOk P w K mg base CX0 8 f fd ["line"] (spOf K (S_thingM C)) := by
  refine fn_data (k := 7) F sc_thing_in (fun ds M Φ h => ?_) (fun cdv A outer s H E ds M Φ hr h => ?_)
  · obtain ⟨r, rfl, hk, hl, q⟩ := h
    all_goals rfl
  · obtain ⟨r, rfl, hk, hl, q⟩ := h
    have h5 : sizeLine = 2 ^ 24 := rfl
    have hl9 := lenM hk hl
    obtain ⟨nm9, x9, y9, u9, v9, la9⟩ := r
    obtain ⟨b9, hb9, hb8, hb6⟩ := hl
    cases hb9
    have hb7 : ∀ n, n ∈ [x9, y9, u9, v9, b9] → -1000 ≤ n ∧ n ≤ 1000 := fun n hn => by
      obtain ⟨_, k2, k3, k4, k5, k6, k7⟩ := hk
      simp only at k2 k3 k4 k5 k6 k7
      simp only [List.mem_cons, List.not_mem_nil, or_false] at hn
      rcases hn with rfl | rfl | rfl | rfl | rfl <;> omega
    rw [show txM ⟨nm9, x9, y9, u9, v9, .int b9⟩ = markT nm9 x9 y9 u9 v9 b9 from rfl] at hl9 ⊢
    refine ws_set 1 sc_thing_in.nd ?_
    refine we_split ?_
    refine wv 0 rfl ?_
    refine ⟨_, rfl, (by omega), ?_⟩
    refine we_str ?_
    refine ⟨_, rfl, blank1, ?_⟩
    rw [split_M (nameOk_sp hk.nm.ok)]
    refine ws_wk (Γ' := [some (.str (markT nm9 x9 y9 u9 v9 b9)), some (.lst [.str "mark", .str nm9, .str (isS x9), .str (isS y9), .str (isS u9), .str (isS v9), .str (isS b9)]), none]) (M' := M) (by repeat (first | exact wkE | refine wkS ?_ | refine wkN ?_)) (List.Sublist.refl _) ?_
    refine ws_set 2 sc_thing_in.nd ?_
    refine wcf hNs (hr.mono (by decide)) ?_
    refine wa_cons ?_
    refine we_frz ?_
    refine we_slO ?_
    refine wv 1 rfl ?_
    refine wo_some ?_
    refine we_int ?_
    refine ⟨_, rfl, ?_⟩
    refine wo_none ?_
    refine ⟨_, .inl rfl, fun l9 => ⟨l9, _, _, rfl, rfl, ?_⟩⟩
    refine wa_cons ?_
    refine we_if ?_
    refine wt_cmp ?_ (nomark _)
    refine we_ix ?_ (fun _ _ => rfl)
    refine wv 1 rfl ?_
    refine we_int ?_
    refine ix_lst (j := 0) rfl rfl ?_
    refine we_str ?_
    refine od_eqS ?_
    rw [show decide (("mark" : Str) = "mark") = true by decide +kernel]
    refine ⟨_, rfl, ?_⟩
    refine ⟨fun hb => ?_, fun hb => ?_⟩
    · walk_at "tidy"
      refine we_int ?_
      refine wa_nil ?_
      refine ⟨[x9, y9, u9, v9, b9], _, rfl, rfl, of_decide_eq_true rfl, hb7, ?_⟩
      refine ws_if ?_
      refine wt_bool ?_
      refine ww_or ?_
      refine wt_cmp ?_ (by rfl)
      refine we_ix ?_ (fun _ _ => rfl)
      refine wv 1 rfl ?_
      refine we_int ?_
      refine ix_lst (j := 0) rfl rfl ?_
      refine we_tup ?_
      refine wa_cons ?_
      refine we_str ?_
      refine wa_cons ?_
      refine we_str ?_
      refine wa_cons ?_
      refine we_str ?_
      refine wa_nil ?_
      refine ⟨(by walk_at "size"), ?_⟩
      refine od_niTS (zs := ["room", "barred", "mark"]) ?_
      rw [show decide (("mark" : Str) ∈ (["room", "barred", "mark"] : List Str)) = true by decide +kernel]
      refine ⟨_, rfl, ?_⟩
      refine ⟨fun hb => ?_, fun hb => ?_⟩
      · walk_at "dead"
      · walk_at "tidy"
        refine ww_or1 ?_
        refine wt_cmp ?_ (nomark _)
        refine wv 2 rfl ?_
        refine we_non ?_
        refine od_is ?_
        refine ⟨_, rfl, ?_⟩
        refine ⟨fun hb => ?_, fun hb => ?_⟩
        · walk_at "dead"
        · walk_at "tidy"
          refine ws_nil ?_
          refine ws_cons (w1_thru ?_)
          refine ws_if ?_
          refine wt_cmp ?_ (nomark _)
          refine we_ix ?_ (fun _ _ => rfl)
          refine wv 1 rfl ?_
          refine we_int ?_
          refine ix_lst (j := 0) rfl rfl ?_
          refine we_str ?_
          refine od_eqS ?_
          rw [show decide (("mark" : Str) = "mark") = true by decide +kernel]
          refine ⟨_, rfl, ?_⟩
          refine ⟨fun hb => ?_, fun hb => ?_⟩
          · walk_at "tidy"
            refine ws_ret ?_
            refine wmk hMark (hr.mono (by decide)) ?_
            refine wa_cons ?_
            refine we_ix ?_ (fun _ _ => rfl)
            refine wv 1 rfl ?_
            refine we_int ?_
            refine ix_lst (j := 1) rfl rfl ?_
            refine wa_cons ?_
            refine wcT B.tuple boot_tuple ?_
            refine wa_cons ?_
            refine we_frz ?_
            refine we_slO ?_
            refine wv 2 rfl ?_
            refine wo_none ?_
            refine wo_some ?_
            refine we_int ?_
            refine ⟨_, rfl, ?_⟩
            refine ⟨_, .inl rfl, fun l9 => ⟨l9, _, _, rfl, rfl, ?_⟩⟩
            refine wa_nil ?_
            refine cd_tuple (.inl rfl) ?_
            refine wa_cons ?_
            refine wcT B.tuple boot_tuple ?_
            refine wa_cons ?_
            refine we_frz ?_
            refine we_slO ?_
            refine wv 2 rfl ?_
            refine wo_some ?_
            refine we_int ?_
            refine ⟨_, rfl, ?_⟩
            refine wo_some ?_
            refine we_int ?_
            refine ⟨_, rfl, ?_⟩
            refine ⟨_, .inl rfl, fun l9 => ⟨l9, _, _, rfl, rfl, ?_⟩⟩
            refine wa_nil ?_
            refine cd_tuple (.inl rfl) ?_
            refine wa_cons ?_
            refine we_ix ?_ (fun _ _ => rfl)
            refine wv 2 rfl ?_
            refine we_int ?_
            refine ix_lst (j := 4) rfl rfl ?_
            refine wa_nil ?_
            intro l8
            refine ⟨l8, nm9, x9, y9, u9, v9, _, _, rfl, hk.nm.ok, hk.nm.ln, hk.xu, hk.yv, hb8, rfl, rfl, _, _, rfl, ?_⟩
            exact q
          · walk_at "dead"
    · walk_at "dead"
/-! ### Site.read -/
def S_read (C CR CM : Addr) : DS := fun ds M Φ => ∃ t : SiT, ds = [.adr C, .str (nlJ t.ls)] ∧ t.ok ∧ Φ (t.o C CR CM) M
theorem getMapA {α β : Type} {f : α → β} {L : List α} {i : Nat} {y : β} (h : (L.map f)[i]? = some y) : ∃ z, L[i]? = some z ∧ y = f z := by
  rw [List.getElem?_map] at h
  cases e : L[i]? with
  | none =>
    rw [e] at h
    cases h
  | some z =>
    rw [e] at h
    cases h
    exact ⟨z, rfl, rfl⟩
theorem cutD2 {x y : D} {R : List D} : cutD (x :: y :: R) (some 2) none = R := by
  show cutL (x :: y :: R) (some ((2 : Nat) : Int)) none = R
  rw [cut_from (n := 2) (by simp)]
  rfl
theorem SiT.ok.joined {t : SiT} (h : t.ok) : (nlJ t.ls).length + 2 ≤ 16777216 := by
  have h1 := nlJ_len t.ls
  have h2 := sumB (fun z : Str => z.length) 8008 t.ls h.each
  have h3 := h.lsl
  have h4 : t.ls.length * 8008 ≤ 202 * 8008 := Nat.mul_le_mul_right _ h3
  omega
theorem SiT.ok.split {t : SiT} (h : t.ok) : Txt.split (nlJ t.ls) "\n" = t.ls := nlJ_split (by simp [SiT.ls]) h.nl
abbrev s_Site_read : Stmt := inClass (top 28) 1
theorem sc_Site_read : FnScope ["cls", "text", "lines", "rooms", "marks", "size", "slips", "at", "line", "found"] ["cls", "text"] (defScope s_Site_read) := ⟨rfl, rfl, rfl, by decide +kernel, rfl, by decide +kernel, by decide +kernel⟩
theorem ok_Site_read {f : Addr} {fd : FuncData} (F : FunD K "read" "Site.read" (defArgs s_Site_read) (defBody s_Site_read) (defScope s_Site_read) [] [] f fd) (B : Bf mg) {C CR CM : Addr} (hSite : HasMkX P w K mg base 4 C "Site" [] (S_siteG C (R7 K CR CM))) (hR : RmC K CR "barred") (hM : RmC K CM "blur") (hRI : IsF K CR) (hMI : IsF K CM) (hmR : mg "Room" = some (.ref CR)) (hkMR : PySem.W.kitOne K (.ref CM) (.ref CR) = some false) (hSzI : HasFn P w K mg base 4 "size_in" S_sizeIn) (hSlI : HasFn P w K mg base 4 "slips_in" S_slipsIn) (hThR : HasFn P w K mg base 8 "thing_in" (S_thingR CR)) (hThM : HasFn P w K mg base 8 "thing_in" (S_thingM CM)) : FnOk P w K mg base CX0 9 f fd ["cls", "text"] (spOf K (S_read C CR CM)) := by
  refine fn_data (k := 8) F sc_Site_read (fun ds M Φ h => ?_) (fun cdv A outer s H E ds M Φ hr h => ?_)
  · obtain ⟨t, rfl, hk, q⟩ := h
    all_goals rfl
  · obtain ⟨t, rfl, hk, q⟩ := h
    have h5 : sizeLine = 2 ^ 24 := rfl
    have hj := hk.joined
    have hrl := hk.rl
    have hml := hk.ml
    have hnd := sc_Site_read.nd
    refine ws_par3 2 3 4 sc_Site_read.nd ?_
    refine wa_cons ?_
    refine we_split ?_
    refine wv 1 rfl ?_
    refine ⟨_, rfl, (by omega), ?_⟩
    refine we_str ?_
    refine ⟨_, rfl, nline1, ?_⟩
    rw [hk.split]
    refine wa_cons ?_
    refine we_lstO ?_
    refine wa_nil ?_
    refine ⟨(by walk_at "size"), fun l_1 => ?_⟩
    refine wa_cons ?_
    refine we_lstO ?_
    refine wa_nil ?_
    refine ⟨(by walk_at "size"), fun l_2 => ?_⟩
    refine wa_nil ?_
    refine ⟨_, _, _, rfl, ?_⟩
    obtain ⟨l_r, hlr⟩ : ∃ z, z = l_1 := ⟨_, rfl⟩
    obtain ⟨l_m, hlm⟩ : ∃ z, z = l_2 := ⟨_, rfl⟩
    rw [← hlr, ← hlm]
    refine ws_wk (Γ' := [some (.adr C), some (.str (nlJ t.ls)), some (.lst (D.str (yardT t.a t.b) :: D.str (slipT t.s1 t.s2 t.s3) :: (t.rs.map txR ++ t.ms.map txM).map D.str)), some (.adr l_r), some (.adr l_m), none, none, none, none, none]) (M' := (l_m, .lst []) :: (l_r, .lst []) :: M) (by repeat (first | exact wkE | refine wkS ?_ | refine wkN ?_)) (List.Sublist.refl _) ?_
    refine ws_set 5 sc_Site_read.nd ?_
    refine wcf hSzI (hr.mono (by decide)) ?_
    refine wa_cons ?_
    refine we_ix ?_ (fun _ _ => rfl)
    refine wv 2 rfl ?_
    refine we_int ?_
    refine ix_lst (j := 0) rfl rfl ?_
    refine wa_nil ?_
    refine ⟨t.a, t.b, rfl, hk.a0, hk.b0, ?_⟩
    refine ws_wk (Γ' := [some (.adr C), some (.str (nlJ t.ls)), some (.lst (D.str (yardT t.a t.b) :: D.str (slipT t.s1 t.s2 t.s3) :: (t.rs.map txR ++ t.ms.map txM).map D.str)), some (.adr l_r), some (.adr l_m), some (tp t.a t.b), none, none, none, none]) (M' := (l_m, .lst []) :: (l_r, .lst []) :: M) (by repeat (first | exact wkE | refine wkS ?_ | refine wkN ?_)) (List.Sublist.refl _) ?_
    refine ws_if ?_
    refine wt_cmp ?_ (nomark _)
    refine wv 5 rfl ?_
    refine we_non ?_
    refine od_is ?_
    refine ⟨_, rfl, ?_⟩
    refine ⟨fun hb => ?_, fun hb => ?_⟩
    · walk_at "dead"
    · walk_at "tidy"
      refine ws_nil ?_
      refine ws_set 6 sc_Site_read.nd ?_
      refine we_if ?_
      refine wt_cmp ?_ (nomark _)
      refine wcB B.len boot_len ?_
      refine wa_cons ?_
      refine wv 2 rfl ?_
      refine wa_nil ?_
      refine cd_len_lst ?_
      refine we_int ?_
      refine od_gt ?_
      rw [decide_eq_true (by simp only [List.length_cons]; omega)]
      refine ⟨_, rfl, ?_⟩
      refine ⟨fun hb => ?_, fun hb => ?_⟩
      · walk_at "tidy"
        refine wcf hSlI (hr.mono (by decide)) ?_
        refine wa_cons ?_
        refine we_ix ?_ (fun _ _ => rfl)
        refine wv 2 rfl ?_
        refine we_int ?_
        refine ix_lst (j := 1) rfl rfl ?_
        refine wa_nil ?_
        refine ⟨t.s1, t.s2, t.s3, rfl, hk.s1, hk.s2, hk.s3, ?_⟩
        refine ws_wk (Γ' := [some (.adr C), some (.str (nlJ t.ls)), some (.lst (D.str (yardT t.a t.b) :: D.str (slipT t.s1 t.s2 t.s3) :: (t.rs.map txR ++ t.ms.map txM).map D.str)), some (.adr l_r), some (.adr l_m), some (tp t.a t.b), some (t.sl), none, none, none]) (M' := (l_m, .lst []) :: (l_r, .lst []) :: M) (by repeat (first | exact wkE | refine wkS ?_ | refine wkN ?_)) (List.Sublist.refl _) ?_
        refine ws_if ?_
        refine wt_cmp ?_ (nomark _)
        refine wv 6 rfl ?_
        refine we_non ?_
        refine od_is ?_
        refine ⟨_, rfl, ?_⟩
        refine ⟨fun hb => ?_, fun hb => ?_⟩
        · walk_at "dead"
        · walk_at "tidy"
          refine ws_nil ?_
          refine ws_cons (w1_forEL (by passes_own) rfl rfl B.enum ?_)
          refine wa_cons ?_
          refine we_frz ?_
          refine we_slO ?_
          refine wv 2 rfl ?_
          refine wo_some ?_
          refine we_int ?_
          refine ⟨_, rfl, ?_⟩
          refine wo_none ?_
          refine ⟨_, .inl rfl, fun l9 => ⟨l9, _, _, rfl, rfl, ?_⟩⟩
          rw [cutD2]
          refine wa_nil ?_
          refine ⟨fun i Γ M2 => Γ = [some (.adr C), some (.str (nlJ t.ls)), some (.lst (D.str (yardT t.a t.b) :: D.str (slipT t.s1 t.s2 t.s3) :: (t.rs.map txR ++ t.ms.map txM).map D.str)), some (.adr l_r), some (.adr l_m), some (tp t.a t.b), some (t.sl), none, none, none] ∧ M2 = (l_m, .lst ((t.ms.take (i - t.rs.length)).map (gR CM "blur"))) :: (l_r, .lst ((t.rs.take i).map (gR CR "barred"))) :: M, _, rfl, ⟨rfl, (by rw [Nat.zero_sub]; rfl)⟩, ?_, ?_⟩
          · rintro i yy Γ' M2 hyy ⟨rfl, rfl⟩
            obtain ⟨z, hz, rfl⟩ := getMap hyy
            by_cases hi : i < t.rs.length
            · rw [List.getElem?_append_left (by rw [List.length_map]; exact hi)] at hz
              obtain ⟨r, hr9, rfl⟩ := getMapA hz
              obtain ⟨hk9, hl9⟩ := hk.ro r (List.mem_of_getElem? hr9)
              rw [show i - t.rs.length = 0 by omega, List.take_zero]
              refine gd_tup rfl ?_ rfl
              refine gds_cons ?_
              refine gd_name 7 sc_Site_read.nd ?_
              refine gds_cons ?_
              refine gd_name 8 sc_Site_read.nd ?_
              refine gds_nil ?_
              refine ws_wk (Γ' := [some (.adr C), some (.str (nlJ t.ls)), some (.lst (D.str (yardT t.a t.b) :: D.str (slipT t.s1 t.s2 t.s3) :: (t.rs.map txR ++ t.ms.map txM).map D.str)), some (.adr l_r), some (.adr l_m), some (tp t.a t.b), some (t.sl), none, some (.str (txR r)), none]) (M' := (l_m, .lst []) :: (l_r, .lst ((t.rs.take i).map (gR CR "barred"))) :: M) (by repeat (first | exact wkE | refine wkS ?_ | refine wkN ?_)) (List.Sublist.refl _) ?_
              refine ws_set 9 sc_Site_read.nd ?_
              refine wcf hThR (hr.mono (by decide)) ?_
              refine wa_cons ?_
              refine wv 8 rfl ?_
              refine wa_nil ?_
              refine ⟨r, rfl, hk9, hl9, ?_⟩
              refine ws_if ?_
              refine wt_bool ?_
              refine ww_or ?_
              refine wt_cmp ?_ (nomark _)
              refine wv 9 rfl ?_
              refine we_non ?_
              refine od_is ?_
              refine ⟨_, rfl, ?_⟩
              refine ⟨fun hb => ?_, fun hb => ?_⟩
              · walk_at "dead"
              · walk_at "tidy"
                refine ww_or1 ?_
                refine wt_bool ?_
                refine ww_and ?_
                refine wt_val ?_ (by intro _; rfl)
                refine wcB B.isi boot_isinstance ?_
                refine wa_cons ?_
                refine wv 9 rfl ?_
                refine wa_cons ?_
                refine wgl hmR ?_
                refine wa_nil ?_
                refine cd_isiC (.inl rfl) hRI kit_self ?_
                refine tr_bl ?_
                refine ⟨fun hb => ?_, fun hb => ?_⟩
                · walk_at "tidy"
                  refine ww_and1 ?_
                  refine wt_cmp ?_ (nomark _)
                  refine wcB B.len boot_len ?_
                  refine wa_cons ?_
                  refine wv 4 rfl ?_
                  refine wa_nil ?_
                  refine cd_len_own (k := 0) rfl ?_
                  refine we_int ?_
                  refine od_gt ?_
                  refine ⟨_, rfl, ?_⟩
                  refine ⟨fun hb => ?_, fun hb => ?_⟩
                  · walk_at "dead"
                  · walk_at "tidy"
                    refine ws_nil ?_
                    refine ws_expr ?_
                    refine we_append ?_
                    refine we_if ?_
                    refine wt_val ?_ (by intro _; rfl)
                    refine wcB B.isi boot_isinstance ?_
                    refine wa_cons ?_
                    refine wv 9 rfl ?_
                    refine wa_cons ?_
                    refine wgl hmR ?_
                    refine wa_nil ?_
                    refine cd_isiC (.inl rfl) hRI kit_self ?_
                    refine tr_bl ?_
                    refine ⟨fun hb => ?_, fun hb => ?_⟩
                    · walk_at "tidy"
                      refine wv 3 rfl ?_
                      refine ⟨_, 1, _, rfl, rfl, ?_⟩
                      refine wv 9 rfl ?_
                      refine ⟨1, _, rfl, (by rw [List.length_map, List.length_take]; omega), ?_⟩
                      refine ws_wk (Γ' := [some (.adr C), some (.str (nlJ t.ls)), some (.lst (D.str (yardT t.a t.b) :: D.str (slipT t.s1 t.s2 t.s3) :: (t.rs.map txR ++ t.ms.map txM).map D.str)), some (.adr l_r), some (.adr l_m), some (tp t.a t.b), some (t.sl), none, none, none]) (M' := (l_m, .lst ((t.ms.take (i + 1 - t.rs.length)).map (gR CM "blur"))) :: (l_r, .lst ((t.rs.take (i + 1)).map (gR CR "barred"))) :: M) (by repeat (first | exact wkE | refine wkS ?_ | refine wkN ?_)) (by rw [show i + 1 - t.rs.length = 0 by omega, List.take_zero, take_1 hr9, List.map_append]; exact List.Sublist.refl _) ?_
                      refine ws_nil ?_
                      exact ⟨rfl, rfl⟩
                    · walk_at "dead"
                · walk_at "dead"
            · rw [List.getElem?_append_right (by rw [List.length_map]; omega), List.length_map] at hz
              obtain ⟨r, hr9, rfl⟩ := getMapA hz
              obtain ⟨hk9, hl9⟩ := hk.mo r (List.mem_of_getElem? hr9)
              rw [List.take_of_length_le (show t.rs.length ≤ i by omega)]
              refine gd_tup rfl ?_ rfl
              refine gds_cons ?_
              refine gd_name 7 sc_Site_read.nd ?_
              refine gds_cons ?_
              refine gd_name 8 sc_Site_read.nd ?_
              refine gds_nil ?_
              refine ws_wk (Γ' := [some (.adr C), some (.str (nlJ t.ls)), some (.lst (D.str (yardT t.a t.b) :: D.str (slipT t.s1 t.s2 t.s3) :: (t.rs.map txR ++ t.ms.map txM).map D.str)), some (.adr l_r), some (.adr l_m), some (tp t.a t.b), some (t.sl), none, some (.str (txM r)), none]) (M' := (l_m, .lst ((t.ms.take (i - t.rs.length)).map (gR CM "blur"))) :: (l_r, .lst (t.rs.map (gR CR "barred"))) :: M) (by repeat (first | exact wkE | refine wkS ?_ | refine wkN ?_)) (List.Sublist.refl _) ?_
              refine ws_set 9 sc_Site_read.nd ?_
              refine wcf hThM (hr.mono (by decide)) ?_
              refine wa_cons ?_
              refine wv 8 rfl ?_
              refine wa_nil ?_
              refine ⟨r, rfl, hk9, hl9, ?_⟩
              refine ws_if ?_
              refine wt_bool ?_
              refine ww_or ?_
              refine wt_cmp ?_ (nomark _)
              refine wv 9 rfl ?_
              refine we_non ?_
              refine od_is ?_
              refine ⟨_, rfl, ?_⟩
              refine ⟨fun hb => ?_, fun hb => ?_⟩
              · walk_at "dead"
              · walk_at "tidy"
                refine ww_or1 ?_
                refine wt_bool ?_
                refine ww_and ?_
                refine wt_val ?_ (by intro _; rfl)
                refine wcB B.isi boot_isinstance ?_
                refine wa_cons ?_
                refine wv 9 rfl ?_
                refine wa_cons ?_
                refine wgl hmR ?_
                refine wa_nil ?_
                refine cd_isiC (.inl rfl) hMI hkMR ?_
                refine tr_bl ?_
                refine ⟨fun hb => ?_, fun hb => ?_⟩
                · walk_at "dead"
                · walk_at "tidy"
                  refine ⟨fun hb => ?_, fun hb => ?_⟩
                  · walk_at "dead"
                  · walk_at "tidy"
                    refine ws_nil ?_
                    refine ws_expr ?_
                    refine we_append ?_
                    refine we_if ?_
                    refine wt_val ?_ (by intro _; rfl)
                    refine wcB B.isi boot_isinstance ?_
                    refine wa_cons ?_
                    refine wv 9 rfl ?_
                    refine wa_cons ?_
                    refine wgl hmR ?_
                    refine wa_nil ?_
                    refine cd_isiC (.inl rfl) hMI hkMR ?_
                    refine tr_bl ?_
                    refine ⟨fun hb => ?_, fun hb => ?_⟩
                    · walk_at "dead"
                    · walk_at "tidy"
                      refine wv 4 rfl ?_
                      refine ⟨_, 0, _, rfl, rfl, ?_⟩
                      refine wv 9 rfl ?_
                      refine ⟨0, _, rfl, (by rw [List.length_map, List.length_take]; omega), ?_⟩
                      refine ws_wk (Γ' := [some (.adr C), some (.str (nlJ t.ls)), some (.lst (D.str (yardT t.a t.b) :: D.str (slipT t.s1 t.s2 t.s3) :: (t.rs.map txR ++ t.ms.map txM).map D.str)), some (.adr l_r), some (.adr l_m), some (tp t.a t.b), some (t.sl), none, none, none]) (M' := (l_m, .lst ((t.ms.take (i + 1 - t.rs.length)).map (gR CM "blur"))) :: (l_r, .lst ((t.rs.take (i + 1)).map (gR CR "barred"))) :: M) (by repeat (first | exact wkE | refine wkS ?_ | refine wkN ?_)) (by rw [show i + 1 - t.rs.length = (i - t.rs.length) + 1 by omega, take_1 hr9, List.map_append, List.take_of_length_le (show t.rs.length ≤ i + 1 by omega)]; exact List.Sublist.refl _) ?_
                      refine ws_nil ?_
                      exact ⟨rfl, rfl⟩
          · rintro Γ' M2 ⟨rfl, rfl⟩
            rw [List.length_map, List.length_append, List.length_map, List.length_map, List.take_of_length_le (show t.ms.length ≤ t.rs.length + t.ms.length - t.rs.length by omega), List.take_of_length_le (show t.rs.length ≤ t.rs.length + t.ms.length by omega)]
            refine ws_freeze (i := 4) rfl ?_
            refine ws_freeze (i := 3) rfl ?_
            refine ws_wk (Γ' := [some (.adr C), none, none, some (.lst (t.rs.map (gR CR "barred"))), some (.lst (t.ms.map (gR CM "blur"))), some (tp t.a t.b), some (t.sl), none, none, none]) (M' := M) (by repeat (first | exact wkE | refine wkS ?_ | refine wkN ?_)) (List.Sublist.refl _) ?_
            refine ws_ret ?_
            refine we_x (wxmL 0 hSite (hr.mono (by decide)) rfl ?_)
            refine wa_cons ?_
            refine wv 5 rfl ?_
            refine wa_cons ?_
            refine wv 6 rfl ?_
            refine wa_cons ?_
            refine wv 3 rfl ?_
            refine wa_cons ?_
            refine wv 4 rfl ?_
            refine wa_nil ?_
            intro l9
            refine ⟨l9, _, _, _, _, _, _, _, rfl, rfl, hk.R7 hR hM hRI hMI (.inl rfl) (.inl rfl), .inl rfl, .inl rfl, rfl, _, _, rfl, ?_⟩
            exact q
      · walk_at "dead"
end
end Sl57

set_option Elab.async false
set_option linter.all false
set_option maxRecDepth 100000
set_option maxHeartbeats 4000000

namespace Sl57
open PySem PySem.Spec PyProof.Rows L2 Dt
set_option hygiene false
local macro_rules | `(tactic| walk_at "op") => `(tactic| (first
  | refine od_add ?_ | refine od_sub ?_ | refine od_lt ?_ | refine od_le ?_ | refine od_gt ?_ | refine od_ge ?_ | refine od_eq ?_ | refine od_ne ?_ | refine od_is ?_ | refine od_isn ?_
  | refine od_eqS ?_ | refine od_neS ?_ | refine od_eqB ?_ | refine od_neB ?_))
local macro_rules | `(tactic| walk_at "dead") => `(tactic| (first
  | (cases hb; done)
  | (exact absurd (show false = true from hb) (by decide))
  | (exact absurd (show true = false from hb) (by decide))
  | (exact absurd hb (by decide))
  | (exfalso; simp only [decide_eq_true_eq, decide_eq_false_iff_not, Bool.not_eq_true', Bool.not_eq_false'] at hb; omega)))
local macro_rules | `(tactic| walk_at "tidy") => `(tactic| (try simp only [decide_eq_true_eq, decide_eq_false_iff_not, Bool.not_eq_true', Bool.not_eq_false'] at hb))
local macro_rules | `(tactic| walk_at "truth") => `(tactic| (first | refine tr_bl ?_ | refine tr_lst ?_ | refine tr_tup ?_ | refine tr_non ?_ | refine tr_int ?_))
local macro_rules | `(tactic| walk_at "ix") => `(tactic| (first
  | refine ix_tup (j := 0) rfl rfl ?_ | refine ix_tup (j := 1) rfl rfl ?_ | refine ix_tup (j := 2) rfl rfl ?_
  | refine ix_lst (j := 0) rfl rfl ?_ | refine ix_lst (j := 1) rfl rfl ?_ | refine ix_lst (j := 2) rfl rfl ?_
  | refine ix_own (k := 0) (j := 0) rfl rfl rfl ?_
  | refine ix_own (k := 0) (j := 1) rfl rfl rfl ?_
  | refine ix_own (k := 0) (j := 2) rfl rfl rfl ?_
  | refine ix_own (k := 1) (j := 0) rfl rfl rfl ?_
  | refine ix_own (k := 1) (j := 1) rfl rfl rfl ?_
  | refine ix_own (k := 1) (j := 2) rfl rfl rfl ?_
  | refine ix_own (k := 2) (j := 0) rfl rfl rfl ?_
  | refine ix_own (k := 2) (j := 1) rfl rfl rfl ?_
  | refine ix_own (k := 2) (j := 2) rfl rfl rfl ?_
  | refine ix_own (k := 3) (j := 0) rfl rfl rfl ?_
  | refine ix_own (k := 3) (j := 1) rfl rfl rfl ?_
  | refine ix_own (k := 3) (j := 2) rfl rfl rfl ?_
  | refine ix_own (k := 4) (j := 0) rfl rfl rfl ?_
  | refine ix_own (k := 4) (j := 1) rfl rfl rfl ?_
  | refine ix_own (k := 4) (j := 2) rfl rfl rfl ?_
  | refine ix_own (k := 5) (j := 0) rfl rfl rfl ?_
  | refine ix_own (k := 5) (j := 1) rfl rfl rfl ?_
  | refine ix_own (k := 5) (j := 2) rfl rfl rfl ?_
  | refine ix_own (k := 6) (j := 0) rfl rfl rfl ?_
  | refine ix_own (k := 6) (j := 1) rfl rfl rfl ?_
  | refine ix_own (k := 6) (j := 2) rfl rfl rfl ?_
  | refine ix_own (k := 7) (j := 0) rfl rfl rfl ?_
  | refine ix_own (k := 7) (j := 1) rfl rfl rfl ?_
  | refine ix_own (k := 7) (j := 2) rfl rfl rfl ?_
  | refine ix_own (k := 8) (j := 0) rfl rfl rfl ?_
  | refine ix_own (k := 8) (j := 1) rfl rfl rfl ?_
  | refine ix_own (k := 8) (j := 2) rfl rfl rfl ?_
  | refine ix_own (k := 9) (j := 0) rfl rfl rfl ?_
  | refine ix_own (k := 9) (j := 1) rfl rfl rfl ?_
  | refine ix_own (k := 9) (j := 2) rfl rfl rfl ?_
  | refine ix_own (k := 10) (j := 0) rfl rfl rfl ?_
  | refine ix_own (k := 10) (j := 1) rfl rfl rfl ?_
  | refine ix_own (k := 10) (j := 2) rfl rfl rfl ?_
  | refine ix_own (k := 11) (j := 0) rfl rfl rfl ?_
  | refine ix_own (k := 11) (j := 1) rfl rfl rfl ?_
  | refine ix_own (k := 11) (j := 2) rfl rfl rfl ?_
  | refine ix_own (k := 12) (j := 0) rfl rfl rfl ?_
  | refine ix_own (k := 12) (j := 1) rfl rfl rfl ?_
  | refine ix_own (k := 12) (j := 2) rfl rfl rfl ?_
  | refine ix_own (k := 13) (j := 0) rfl rfl rfl ?_
  | refine ix_own (k := 13) (j := 1) rfl rfl rfl ?_
  | refine ix_own (k := 13) (j := 2) rfl rfl rfl ?_))
local macro_rules | `(tactic| walk_at "seti") => `(tactic| (first
  | refine ⟨0, 0, _, _, _, rfl, rfl, rfl, rfl, of_decide_eq_true rfl, ?_⟩
  | refine ⟨0, 1, _, _, _, rfl, rfl, rfl, rfl, of_decide_eq_true rfl, ?_⟩
  | refine ⟨0, 2, _, _, _, rfl, rfl, rfl, rfl, of_decide_eq_true rfl, ?_⟩
  | refine ⟨1, 0, _, _, _, rfl, rfl, rfl, rfl, of_decide_eq_true rfl, ?_⟩
  | refine ⟨1, 1, _, _, _, rfl, rfl, rfl, rfl, of_decide_eq_true rfl, ?_⟩
  | refine ⟨1, 2, _, _, _, rfl, rfl, rfl, rfl, of_decide_eq_true rfl, ?_⟩
  | refine ⟨2, 0, _, _, _, rfl, rfl, rfl, rfl, of_decide_eq_true rfl, ?_⟩
  | refine ⟨2, 1, _, _, _, rfl, rfl, rfl, rfl, of_decide_eq_true rfl, ?_⟩
  | refine ⟨2, 2, _, _, _, rfl, rfl, rfl, rfl, of_decide_eq_true rfl, ?_⟩
  | refine ⟨3, 0, _, _, _, rfl, rfl, rfl, rfl, of_decide_eq_true rfl, ?_⟩
  | refine ⟨3, 1, _, _, _, rfl, rfl, rfl, rfl, of_decide_eq_true rfl, ?_⟩
  | refine ⟨3, 2, _, _, _, rfl, rfl, rfl, rfl, of_decide_eq_true rfl, ?_⟩
  | refine ⟨4, 0, _, _, _, rfl, rfl, rfl, rfl, of_decide_eq_true rfl, ?_⟩
  | refine ⟨4, 1, _, _, _, rfl, rfl, rfl, rfl, of_decide_eq_true rfl, ?_⟩
  | refine ⟨4, 2, _, _, _, rfl, rfl, rfl, rfl, of_decide_eq_true rfl, ?_⟩
  | refine ⟨5, 0, _, _, _, rfl, rfl, rfl, rfl, of_decide_eq_true rfl, ?_⟩
  | refine ⟨5, 1, _, _, _, rfl, rfl, rfl, rfl, of_decide_eq_true rfl, ?_⟩
  | refine ⟨5, 2, _, _, _, rfl, rfl, rfl, rfl, of_decide_eq_true rfl, ?_⟩
  | refine ⟨6, 0, _, _, _, rfl, rfl, rfl, rfl, of_decide_eq_true rfl, ?_⟩
  | refine ⟨6, 1, _, _, _, rfl, rfl, rfl, rfl, of_decide_eq_true rfl, ?_⟩
  | refine ⟨6, 2, _, _, _, rfl, rfl, rfl, rfl, of_decide_eq_true rfl, ?_⟩
  | refine ⟨7, 0, _, _, _, rfl, rfl, rfl, rfl, of_decide_eq_true rfl, ?_⟩
  | refine ⟨7, 1, _, _, _, rfl, rfl, rfl, rfl, of_decide_eq_true rfl, ?_⟩
  | refine ⟨7, 2, _, _, _, rfl, rfl, rfl, rfl, of_decide_eq_true rfl, ?_⟩
  | refine ⟨8, 0, _, _, _, rfl, rfl, rfl, rfl, of_decide_eq_true rfl, ?_⟩
  | refine ⟨8, 1, _, _, _, rfl, rfl, rfl, rfl, of_decide_eq_true rfl, ?_⟩
  | refine ⟨8, 2, _, _, _, rfl, rfl, rfl, rfl, of_decide_eq_true rfl, ?_⟩
  | refine ⟨9, 0, _, _, _, rfl, rfl, rfl, rfl, of_decide_eq_true rfl, ?_⟩
  | refine ⟨9, 1, _, _, _, rfl, rfl, rfl, rfl, of_decide_eq_true rfl, ?_⟩
  | refine ⟨9, 2, _, _, _, rfl, rfl, rfl, rfl, of_decide_eq_true rfl, ?_⟩
  | refine ⟨10, 0, _, _, _, rfl, rfl, rfl, rfl, of_decide_eq_true rfl, ?_⟩
  | refine ⟨10, 1, _, _, _, rfl, rfl, rfl, rfl, of_decide_eq_true rfl, ?_⟩
  | refine ⟨10, 2, _, _, _, rfl, rfl, rfl, rfl, of_decide_eq_true rfl, ?_⟩
  | refine ⟨11, 0, _, _, _, rfl, rfl, rfl, rfl, of_decide_eq_true rfl, ?_⟩
  | refine ⟨11, 1, _, _, _, rfl, rfl, rfl, rfl, of_decide_eq_true rfl, ?_⟩
  | refine ⟨11, 2, _, _, _, rfl, rfl, rfl, rfl, of_decide_eq_true rfl, ?_⟩
  | refine ⟨12, 0, _, _, _, rfl, rfl, rfl, rfl, of_decide_eq_true rfl, ?_⟩
  | refine ⟨12, 1, _, _, _, rfl, rfl, rfl, rfl, of_decide_eq_true rfl, ?_⟩
  | refine ⟨12, 2, _, _, _, rfl, rfl, rfl, rfl, of_decide_eq_true rfl, ?_⟩
  | refine ⟨13, 0, _, _, _, rfl, rfl, rfl, rfl, of_decide_eq_true rfl, ?_⟩
  | refine ⟨13, 1, _, _, _, rfl, rfl, rfl, rfl, of_decide_eq_true rfl, ?_⟩
  | refine ⟨13, 2, _, _, _, rfl, rfl, rfl, rfl, of_decide_eq_true rfl, ?_⟩))
local macro_rules | `(tactic| walk_at "lst") => `(tactic| (first
  | refine cd_list (.inr (.inr ⟨0, _, rfl, rfl⟩)) ?_
  | refine cd_list (.inr (.inr ⟨1, _, rfl, rfl⟩)) ?_
  | refine cd_list (.inr (.inr ⟨2, _, rfl, rfl⟩)) ?_
  | refine cd_list (.inr (.inr ⟨3, _, rfl, rfl⟩)) ?_
  | refine cd_list (.inr (.inr ⟨4, _, rfl, rfl⟩)) ?_
  | refine cd_list (.inr (.inr ⟨5, _, rfl, rfl⟩)) ?_
  | refine cd_list (.inr (.inr ⟨6, _, rfl, rfl⟩)) ?_
  | refine cd_list (.inr (.inr ⟨7, _, rfl, rfl⟩)) ?_
  | refine cd_list (.inr (.inr ⟨8, _, rfl, rfl⟩)) ?_
  | refine cd_list (.inr (.inr ⟨9, _, rfl, rfl⟩)) ?_
  | refine cd_list (.inr (.inr ⟨10, _, rfl, rfl⟩)) ?_
  | refine cd_list (.inr (.inr ⟨11, _, rfl, rfl⟩)) ?_
  | refine cd_list (.inr (.inr ⟨12, _, rfl, rfl⟩)) ?_
  | refine cd_list (.inr (.inr ⟨13, _, rfl, rfl⟩)) ?_))
local macro_rules | `(tactic| walk_at "isi") => `(tactic| (first | refine cd_isi (k := true) rfl (by decide +kernel) ?_ | refine cd_isi (k := false) rfl (by decide +kernel) ?_))
local macro_rules | `(tactic| walk_at "size") => `(tactic| (first
  | exact (show 0 ≤ sizeLine by decide) | exact (show 1 ≤ sizeLine by decide) | exact (show 2 ≤ sizeLine by decide) | exact (show 3 ≤ sizeLine by decide) | exact (show 4 ≤ sizeLine by decide) | exact (show 5 ≤ sizeLine by decide) | exact (show 6 ≤ sizeLine by decide) | exact (of_decide_eq_true rfl) | exact (Nat.le_of_ble_eq_true rfl)))

section
variable {P : Program} {w : World} {K : PySem.W.Frag} {mg : Str → Option Value} {base : Heap}
/-! ### law -/
def S_law : DS := fun ds M Φ => ∃ ns : List Int, ds = [.lst (ns.map .int)] ∧ ns.length ≤ 63 ∧ M = [] ∧ ∀ M', Φ (.bl true) M'
abbrev dl (l l2 : Addr) (gs : List Int) (m : Int) : Mem := [(l, .lst [.adr l2, .int m]), (l2, .lst (gs.map D.int))]
theorem dl_at {l l2 : Addr} {gs : List Int} {m : Int} (g : Good gs m) : DealAt (dl l l2 gs m) 0 l l2 := ⟨gs, m, g, rfl, rfl⟩
theorem dl_put {l l2 : Addr} {gs gs' : List Int} {m m' : Int} : put2 (dl l l2 gs m) 0 l l2 gs' m' = dl l l2 gs' m' := rfl
theorem cut_sub {α : Type} (xs : List α) (lo hi : Option Int) : (cutL xs lo hi).Sublist xs := (List.take_sublist _ _).trans (List.drop_sublist _ _)
/-- a site from what was drawn -/
theorem site_ok {c : Int × Int} {s1 s2 s3 : Int} {rs ms : List RT} {as bs : List Str} (hc : 0 < c.1 ∧ c.1 < 100 ∧ 0 < c.2 ∧ c.2 < 100) (h1 : 0 ≤ s1 ∧ s1 < 101) (h2 : 0 ≤ s2 ∧ s2 < 101) (h3 : 0 ≤ s3 ∧ s3 < 101) (hrn : rs.map RT.nm = as) (hmn : ms.map RT.nm = bs)
    (hro : ∀ r, r ∈ rs → r.ok ∧ ∃ b, r.last = .bl b) (hmo : ∀ r, r ∈ ms → r.ok ∧ ∃ n : Int, (0 ≤ n ∧ n < 101) ∧ r.last = .int n) (ha : as.Nodup) (hb : bs.Nodup) (hal : as.length < 100) (hbl : bs.length < 100) (han : ∀ y, y ∈ as → y ∈ nameL) (hbn : ∀ y, y ∈ bs → y ∈ nameL) : SiT.ok ⟨c.1, c.2, s1, s2, s3, rs, ms⟩ := by
  have e1 := congrArg List.length hrn
  have e2 := congrArg List.length hmn
  rw [List.length_map] at e1 e2
  refine ⟨⟨hc.1, by show c.1 ≤ 1000; omega⟩, ⟨hc.2.2.1, by show c.2 ≤ 1000; omega⟩, ⟨h1.1, by show s1 ≤ 1000; omega⟩, ⟨h2.1, by show s2 ≤ 1000; omega⟩, ⟨h3.1, by show s3 ≤ 1000; omega⟩, by show rs.length < 100; omega, by show ms.length < 100; omega, fun r hr => ?_, fun r hr => ?_, by show (rs.map RT.nm).Nodup; rw [hrn]; exact ha, by show (ms.map RT.nm).Nodup; rw [hmn]; exact hb⟩
  · obtain ⟨⟨⟨k1, k2⟩, k3, k4, k5, k6⟩, b, hb⟩ := hro r hr
    exact ⟨⟨nameL_nm (han _ (hrn ▸ List.mem_map_of_mem hr)), by omega, k1, by omega, by omega, k2, by omega⟩, b, hb⟩
  · obtain ⟨⟨⟨k1, k2⟩, k3, k4, k5, k6⟩, n, hn, hb⟩ := hmo r hr
    exact ⟨⟨nameL_nm (hbn _ (hmn ▸ List.mem_map_of_mem hr)), by omega, k1, by omega, by omega, k2, by omega⟩, n, hb, hn.1, by omega⟩
theorem SiT.ok.rep {t : SiT} (h : t.ok) : smDs [tp t.a t.b, t.sl] = true ∧ costDs [tp t.a t.b, t.sl] + 3 ≤ sizeLine ∧ PyData.depthAll (pys [tp t.a t.b, t.sl]) ≤ 1 := by
  have k1 := big_of (n := t.a) (by have := h.a0; omega) h.a0.2
  have k2 := big_of (n := t.b) (by have := h.b0; omega) h.b0.2
  have k3 := big_of (n := t.s1) (by have := h.s1; omega) h.s1.2
  have k4 := big_of (n := t.s2) (by have := h.s2; omega) h.s2.2
  have k5 := big_of (n := t.s3) (by have := h.s3; omega) h.s3.2
  refine ⟨?_, of_decide_eq_true rfl, ?_⟩
  · simp only [SiT.sl, tp, smDs, smD, k1, k2, k3, k4, k5, Bool.and_true]
  · simp only [SiT.sl, tp, pys, py, PyData.depthAll, PyData.depth]
    decide

theorem smRs {ls : D → Prop} (hls : ∀ d, ls d → LsB d ∨ LsI d) : ∀ {rs : List RT}, (∀ r, r ∈ rs → RmOk r ∧ ls r.last) → smDs (rs.map RT.d) = true ∧ costDs (rs.map RT.d) ≤ rs.length * 20000 ∧ PyData.depthAll (pys (rs.map RT.d)) ≤ 2
  | [], _ => ⟨rfl, Nat.zero_le _, Nat.zero_le _⟩
  | r :: rs, h => by
    obtain ⟨h1, h2, h3⟩ := smRs hls fun q hq => h q (List.mem_cons_of_mem _ hq)
    obtain ⟨g1, g2⟩ := h r List.mem_cons_self
    obtain ⟨k1, k2, k3⟩ := rep_R g1 (hls _ g2)
    have k4 : costDs [.str r.nm, tp r.x r.y, tp r.u r.v, r.last] ≤ 11000 := by
      have e1 := g1.nm.ln
      rcases hls _ g2 with ⟨b, hb⟩ | ⟨b, hb, _⟩
      · rw [hb]
        simp only [tp, costDs, costD]
        omega
      · rw [hb]
        simp only [tp, costDs, costD]
        omega
    refine ⟨?_, ?_, ?_⟩
    · show (smDs [.str r.nm, tp r.x r.y, tp r.u r.v, r.last] && smDs (rs.map RT.d)) = true
      rw [k1, h1]
      rfl
    · show (costDs [.str r.nm, tp r.x r.y, tp r.u r.v, r.last] + 3) + 2 + costDs (rs.map RT.d) ≤ (rs.length + 1) * 20000
      rw [Nat.add_mul]
      omega
    · show max (PyData.depthAll (pys [.str r.nm, tp r.x r.y, tp r.u r.v, r.last]) + 1) (PyData.depthAll (pys (rs.map RT.d))) ≤ 2
      exact Nat.max_le.mpr ⟨Nat.succ_le_succ k3, h3⟩
theorem SiT.ok.two {t : SiT} (h : t.ok) : SiT.ok { t with rs := [], ms := [] } := ⟨h.a0, h.b0, h.s1, h.s2, h.s3, by show 0 < 100; decide, by show 0 < 100; decide, fun r h => (by cases h), fun r h => (by cases h), List.nodup_nil, List.nodup_nil⟩
theorem t1_ok : SiT.ok ⟨3, 2, 0, 1, 2, [], []⟩ := ⟨⟨by decide, by decide⟩, ⟨by decide, by decide⟩, ⟨by decide, by decide⟩, ⟨by decide, by decide⟩, ⟨by decide, by decide⟩, by decide, by decide, fun r h => (by cases h), fun r h => (by cases h), List.nodup_nil, List.nodup_nil⟩
theorem t1_txt : nlJ (SiT.ls ⟨3, 2, 0, 1, 2, [], []⟩) = "yard 3 2\nslip 0 1 2" := by decide +kernel
theorem cut_two {t : SiT} : cutD (t.ls.map D.str) none (some 2) = (SiT.ls { t with rs := [], ms := [] }).map D.str := by
  rw [cut_map]
  show (cutL (yardT t.a t.b :: slipT t.s1 t.s2 t.s3 :: (t.rs.map txR ++ t.ms.map txM)) none (some ((2 : Nat) : Int))).map D.str = _
  rw [cut_to (n := 2) (by simp)]
  rfl
abbrev s_law : Stmt := top 43
theorem sc_law : FnScope ["_law_script", "_law_deal_here", "_law_turn", "_law_names_here", "_law_many", "_law_site_here", "_law_text", "_law_made", "_law_told", "_law_room", "_law_mark"] ["_law_script"] (defScope s_law) := ⟨rfl, rfl, rfl, by decide +kernel, rfl, by decide +kernel, by decide +kernel⟩
theorem ok_law {f : Addr} {fd : FuncData} (F : FunD K "law" "law" (defArgs s_law) (defBody s_law) (defScope s_law) [] [] f fd) (B : Bf mg) {C CR CM : Addr} (hRoom : HasMk P w K mg base 6 CR "Room" (S_room CR)) (hMark : HasMk P w K mg base 6 CM "Mark" (S_mark CM)) (hSite : HasMkX P w K mg base 4 C "Site" [] (S_siteG C (R7 K CR CM))) (hR : RmC K CR "barred") (hM : RmC K CM "blur") (hRI : IsF K CR) (hMI : IsF K CM) (hDeal : HasFn P w K mg base 1 "_law_deal" S_deal) (hDraw : HasFn P w K mg base 1 "_law_draw" S_draw) (hNames : HasFn P w K mg base 3 "_law_names" S_names) (hSite6 : HasFn P w K mg base 3 "_law_site" S_site6) (hLines : HasFn P w K mg base 2 "_law_site_lines" S_lines) (hSiteOf : HasFn P w K mg base 9 "_law_site_of" (S_siteOf C CR CM)) (hSiteD : HasMkX P w K mg base 4 C "Site" [.tup [], .tup []] (S_siteG C (R7 K CR CM))) (hSt : StC K C) (hStrS : HasMe P w K mg base 4 C "__str__" (S_siteStr CR CM C)) (hEqS : HasMe P w K mg base 7 C "__eq__" (S_eqR C (S_siteStr CR CM C))) (hNeS : NeF K C) (hRead : HasCm P w K mg base 9 C "read" (S_read C CR CM)) (hmS : mg "Site" = some (.ref C)) : RunG P w K mg base 12 f fd ["_law_script"] (spOf K S_law) := by
  refine fn_dataG (k := 11) F sc_law (fun ds M Φ h => ?_) (fun cdv A outer s H E ds M Φ hgd hr h => ?_)
  · obtain ⟨ns, rfl, hlen, rfl, qq⟩ := h
    all_goals rfl
  · obtain ⟨ns, rfl, hlen, rfl, qq⟩ := h
    skip
    refine ws_set 1 sc_law.nd ?_
    refine wcf hDeal (hr.mono (by decide)) ?_
    refine wa_cons ?_
    refine wv 0 rfl ?_
    refine wa_nil ?_
    refine ⟨ns, rfl, hlen, fun l l2 gs m hg => ?_⟩
    refine ws_cons (w1_forR1 (by passes_own) rfl rfl B.range ?_)
    refine wa_cons ?_
    refine we_int ?_
    refine wa_nil ?_
    refine ⟨fun _ Γ M => Γ = [some (.lst (ns.map .int)), some (.adr l), none, none, none, none, none, none, none, none, none] ∧ ∃ gs m, Good gs m ∧ M = dl l l2 gs m, _, rfl, by decide, by decide, ⟨rfl, gs, m, hg, rfl⟩, ?_, ?_⟩
    · rintro i Γ' M' hi ⟨rfl, gs, m, hg, rfl⟩
      refine gd_name 2 sc_law.nd ?_
      refine ws_par 3 4 sc_law.nd ?_
      refine wa_cons ?_
      refine wcf hNames (hr.mono (by decide)) ?_
      refine wa_cons ?_
      refine wv 1 rfl ?_
      refine wa_cons ?_
      refine we_int ?_
      refine wa_nil ?_
      refine ⟨l, l2, 0, 12, rfl, dl_at hg, by decide, fun ys gs1 m1 hyl hyd hyn hg1 l_n => ?_⟩
      rw [dl_put]
      refine wa_cons ?_
      refine wcf hDraw (hr.mono (by decide)) ?_
      refine wa_cons ?_
      refine wv 1 rfl ?_
      refine wa_cons ?_
      refine we_int ?_
      refine wa_nil ?_
      refine ⟨l, l2, 1, _, rfl, deal_cons (dl_at hg1), by decide, by decide, fun t2 gs2 m2 ht2 ht2x hg2 => ?_⟩
      rw [put2_cons, dl_put]
      refine wa_nil ?_
      refine ⟨_, _, rfl, ?_⟩
      refine ws_freeze (i := 3) rfl ?_
      refine ws_wk (Γ' := [some (.lst (ns.map .int)), some (.adr l), none, some (.lst (ys.map D.str)), some (.int t2), none, none, none, none, none, none]) (M' := dl l l2 gs2 m2) (by repeat (first | exact wkE | refine wkS ?_ | refine wkN ?_)) (List.Sublist.refl _) ?_
      refine ws_set 5 sc_law.nd ?_
      refine wcf hSite6 (hr.mono (by decide)) ?_
      refine wa_cons ?_
      refine wv 1 rfl ?_
      refine wa_cons ?_
      refine we_lst ?_
      refine wa_cons ?_
      refine we_tup ?_
      refine wa_cons ?_
      refine we_int ?_
      refine wa_cons ?_
      refine we_int ?_
      refine wa_nil ?_
      refine ⟨(by walk_at "size"), ?_⟩
      refine wa_cons ?_
      refine we_tup ?_
      refine wa_cons ?_
      refine we_int ?_
      refine wa_cons ?_
      refine we_int ?_
      refine wa_nil ?_
      refine ⟨(by walk_at "size"), ?_⟩
      refine wa_cons ?_
      refine we_tup ?_
      refine wa_cons ?_
      refine we_int ?_
      refine wa_cons ?_
      refine we_int ?_
      refine wa_nil ?_
      refine ⟨(by walk_at "size"), ?_⟩
      refine wa_cons ?_
      refine we_tup ?_
      refine wa_cons ?_
      refine we_int ?_
      refine wa_cons ?_
      refine we_int ?_
      refine wa_nil ?_
      refine ⟨(by walk_at "size"), ?_⟩
      refine wa_nil ?_
      refine ⟨(by walk_at "size"), ?_⟩
      refine wa_cons ?_
      refine we_int ?_
      refine wa_cons ?_
      refine we_tup ?_
      refine wa_cons ?_
      refine we_frz ?_
      refine we_slO ?_
      refine wv 3 rfl ?_
      refine wo_none ?_
      refine wo_some ?_
      refine wv 4 rfl ?_
      refine ⟨_, rfl, ?_⟩
      refine ⟨_, .inl rfl, fun l9 => ⟨l9, _, _, rfl, rfl, ?_⟩⟩
      rw [cut_map]
      refine wa_cons ?_
      refine we_frz ?_
      refine we_slO ?_
      refine wv 3 rfl ?_
      refine wo_some ?_
      refine wv 4 rfl ?_
      refine ⟨_, rfl, ?_⟩
      refine wo_none ?_
      refine ⟨_, .inl rfl, fun l9 => ⟨l9, _, _, rfl, rfl, ?_⟩⟩
      rw [cut_map]
      refine wa_nil ?_
      refine ⟨(by walk_at "size"), ?_⟩
      refine wa_nil ?_
      refine ⟨l, l2, 0, [(1, 1), (8, 1), (12, 3), (60, 40)], 3, cutL ys none (some t2), cutL ys (some t2) none, rfl, dl_at hg2, by decide, by decide, ?_, by decide, by decide, (by have := cut_len ys none (some t2); omega), (by have := cut_len ys (some t2) none; omega), ?_⟩
      · intro c hc
        simp only [List.mem_cons, List.not_mem_nil, or_false] at hc
        rcases hc with rfl | rfl | rfl | rfl <;> decide
      intro c s1 s2 s3 rs ms gs m hcm hs1 hs2 hs3 hrn hmn hro hmo hg
      have hcp : 0 < c.1 ∧ c.1 < 100 ∧ 0 < c.2 ∧ c.2 < 100 := by
        simp only [List.mem_cons, List.not_mem_nil, or_false] at hcm
        rcases hcm with rfl | rfl | rfl | rfl <;> decide
      have hk := site_ok hcp hs1 hs2 hs3 hrn hmn hro hmo (hyd.sublist (cut_sub _ _ _)) (hyd.sublist (cut_sub _ _ _)) (by have := cut_len ys none (some t2); omega) (by have := cut_len ys (some t2) none; omega) (fun y h => hyn y (cut_mem h)) (fun y h => hyn y (cut_mem h))
      rw [dl_put]
      obtain ⟨t, ht⟩ : ∃ t : SiT, t = ⟨c.1, c.2, s1, s2, s3, rs, ms⟩ := ⟨_, rfl⟩
      rw [← ht] at hk
      rw [show D.tup [cellD c, .tup [.int s1, .int s2, .int s3], .tup (rs.map RT.d), .tup (ms.map RT.d)] = t.d by rw [ht]; rfl]
      refine ws_wk (Γ' := [some (.lst (ns.map .int)), some (.adr l), none, none, none, some (t.d), none, none, none, none, none]) (M' := dl l l2 gs m) (by repeat (first | exact wkE | refine wkS ?_ | refine wkN ?_)) (List.Sublist.refl _) ?_
      refine ws_set 6 sc_law.nd ?_
      refine we_join ?_
      refine we_str ?_
      refine ⟨_, rfl, ?_⟩
      refine wcf hLines (hr.mono (by decide)) ?_
      refine wa_cons ?_
      refine wv 5 rfl ?_
      refine wa_nil ?_
      refine ⟨t, rfl, hk, fun l_9 => ?_⟩
      refine ⟨t.ls, .inl (.inr ⟨0, _, rfl, rfl⟩), hk.small, ?_⟩
      rw [show Txt.join "\n" t.ls = nlJ t.ls from rfl]
      refine ws_wk (Γ' := [some (.lst (ns.map .int)), some (.adr l), none, none, none, some (t.d), some (.str (nlJ t.ls)), none, none, none, none]) (M' := dl l l2 gs m) (by repeat (first | exact wkE | refine wkS ?_ | refine wkN ?_)) (.cons _ (.refl _)) ?_
      refine ws_set 7 sc_law.nd ?_
      refine we_cm hRead (hr.mono (by decide)) ?_
      refine wgl hmS ?_
      refine ⟨rfl, ?_⟩
      refine wa_cons ?_
      refine wv 6 rfl ?_
      refine wa_nil ?_
      refine ⟨t, rfl, hk, ?_⟩
      refine ws_wk (Γ' := [some (.lst (ns.map .int)), some (.adr l), none, none, none, some (t.d), some (.str (nlJ t.ls)), some (t.o C CR CM), none, none, none]) (M' := dl l l2 gs m) (by repeat (first | exact wkE | refine wkS ?_ | refine wkN ?_)) (List.Sublist.refl _) ?_
      refine ws_if ?_
      refine wt_bool ?_
      refine ww_or ?_
      refine wt_cmp ?_ (nomark _)
      refine wcT B.str boot_str ?_
      refine wa_cons ?_
      refine wv 7 rfl ?_
      refine wa_nil ?_
      refine cd_strO hStrS (hr.mono (by decide)) (.inl rfl) ⟨t, rfl, hk, _, rfl, ?_⟩
      refine wv 6 rfl ?_
      refine od_neS ?_
      rw [decide_eq_true rfl]
      refine ⟨_, rfl, ?_⟩
      refine ⟨fun hb => ?_, fun hb => ?_⟩
      · walk_at "dead"
      · walk_at "tidy"
        refine ww_or ?_
        refine wt_cmp ?_ (nomark _)
        refine wv 7 rfl ?_
        refine wcf hSiteOf (hr.mono (by decide)) ?_
        refine wa_cons ?_
        refine wv 5 rfl ?_
        refine wa_nil ?_
        refine ⟨t, rfl, hk, ?_⟩
        refine od_ownNe hEqS hNeS (hr.mono (by decide)) (.inl rfl) (.inl rfl) ⟨_, _, nlJ t.ls, nlJ t.ls, _, _, rfl, rfl, rfl, (fun M Φ q => ⟨t, rfl, hk, q⟩), (fun M Φ q => ⟨t, rfl, hk, q⟩), _, rfl, ?_⟩
        rw [decide_eq_true rfl]
        refine ⟨_, rfl, ?_⟩
        refine ⟨fun hb => ?_, fun hb => ?_⟩
        · walk_at "dead"
        · walk_at "tidy"
          refine ww_or1 ?_
          refine wt_cmp ?_ (nomark _)
          refine wcT B.str boot_str ?_
          refine wa_cons ?_
          refine wcf hSiteOf (hr.mono (by decide)) ?_
          refine wa_cons ?_
          refine wv 5 rfl ?_
          refine wa_nil ?_
          refine ⟨t, rfl, hk, ?_⟩
          refine wa_nil ?_
          refine cd_strO hStrS (hr.mono (by decide)) (.inl rfl) ⟨t, rfl, hk, _, rfl, ?_⟩
          refine wv 6 rfl ?_
          refine od_neS ?_
          rw [decide_eq_true rfl]
          refine ⟨_, rfl, ?_⟩
          refine ⟨fun hb => ?_, fun hb => ?_⟩
          · walk_at "dead"
          · walk_at "tidy"
            refine ws_nil ?_
            refine ws_if ?_
            refine wt_cmp ?_ (nomark _)
            refine wcB B.repr boot_repr ?_
            refine wa_cons ?_
            refine we_tup ?_
            refine wa_cons ?_
            refine we_attr ?_ (by rfl)
            refine wv 7 rfl ?_
            refine at_fld (.inl rfl) lk_here hSt.cls hSt.n1 ?_
            refine wa_cons ?_
            refine we_attr ?_ (by rfl)
            refine wv 7 rfl ?_
            refine at_fld (.inl rfl) (lk_there (by decide) lk_here) hSt.cls hSt.n2 ?_
            refine wa_nil ?_
            refine ⟨(by walk_at "size"), ?_⟩
            refine wa_nil ?_
            refine cd_reprT (xs := [tp t.a t.b, t.sl]) hgd hk.rep.1 hk.rep.2.1 (Nat.lt_of_le_of_lt (Nat.add_le_add_left (Nat.add_le_add_right hk.rep.2.2 2) _) (hr.un' (by decide))) ?_
            refine wcB B.repr boot_repr ?_
            refine wa_cons ?_
            refine we_slT ?_
            refine wv 5 rfl ?_
            refine wo_none ?_
            refine wo_some ?_
            refine we_int ?_
            refine ⟨_, rfl, ?_⟩
            refine ⟨_, rfl, ?_⟩
            refine wa_nil ?_
            rw [show cutD [tp t.a t.b, t.sl, .tup (t.rs.map RT.d), .tup (t.ms.map RT.d)] none (some 2) = [tp t.a t.b, t.sl] from rfl]
            refine cd_reprT (xs := [tp t.a t.b, t.sl]) hgd hk.rep.1 hk.rep.2.1 (Nat.lt_of_le_of_lt (Nat.add_le_add_left (Nat.add_le_add_right hk.rep.2.2 2) _) (hr.un' (by decide))) ?_
            refine od_neS ?_
            rw [decide_eq_true rfl]
            refine ⟨_, rfl, ?_⟩
            refine ⟨fun hb => ?_, fun hb => ?_⟩
            · walk_at "dead"
            · walk_at "tidy"
              refine ws_nil ?_
              refine ws_mapT (own := [("_law_room", 9)]) 8 sc_law.nd (tg_name (j := 9) (by decide)) ?_ (blkOk_by (N := ["_law_script", "_law_deal_here", "_law_turn", "_law_names_here", "_law_many", "_law_site_here", "_law_text", "_law_made", "_law_told", "_law_room", "_law_mark"]) (sc := defScope s_law) (by decide +kernel)) (fun _ _ _ _ _ => pg_name (i := 9) sc_law.nd rfl (Or.inl rfl))
              refine we_attr ?_ (by rfl)
              refine wv 7 rfl ?_
              refine at_fld (.inl rfl) (lk_there (by decide) (lk_there (by decide) lk_here)) hSt.cls hSt.n3 ?_
              refine ⟨_, t.rs, gR CR "barred", fun _ => true, RT.d, rfl, ⟨(by have h5 : sizeLine = 2 ^ 24 := rfl; have := hk.rl; have := hk.ml; omega), fun _ _ => trivial, fun a9 ha9 l9 out s H C9 cl fp => ?_, fun a9 ha9 hp9 l9 out s H C9 cl fp => ?_⟩, fun l9 => ?_⟩
              · exact wts_nil ⟨rfl, rfl⟩
              · skip
                refine we_tup ?_
                refine wa_cons ?_
                refine we_attr ?_ (by rfl)
                refine wv 9 rfl ?_
                refine at_fld (.inl rfl) lk_here hR.cls hR.nn ?_
                refine wa_cons ?_
                refine we_attr ?_ (by rfl)
                refine wv 9 rfl ?_
                refine at_fld (.inl rfl) (lk_there (by decide) lk_here) hR.cls hR.nl ?_
                refine wa_cons ?_
                refine we_attr ?_ (by rfl)
                refine wv 9 rfl ?_
                refine at_fld (.inl rfl) (lk_there (by decide) (lk_there (by decide) lk_here)) hR.cls hR.nh ?_
                refine wa_cons ?_
                refine we_attr ?_ (by rfl)
                refine wv 9 rfl ?_
                refine at_fld (.inl rfl) (lk_there (by decide) (lk_there (by decide) (lk_there (by decide) lk_here))) hR.cls hR.nb ?_
                refine wa_nil ?_
                refine ⟨(by walk_at "size"), ?_⟩
                exact ⟨rfl, rfl⟩
              refine ws_freeze (i := 8) rfl ?_
              rw [filt_true]
              have hrr := smRs (fun d h => .inl h) hk.ro
              have hrm := smRs (fun d h => .inr h) hk.mo
              refine ws_wk (Γ' := [some (.lst (ns.map .int)), some (.adr l), none, none, none, some (t.d), some (.str (nlJ t.ls)), some (t.o C CR CM), some (.lst (t.rs.map RT.d)), none, none]) (M' := dl l l2 gs m) (by repeat (first | exact wkE | refine wkS ?_ | refine wkN ?_)) (List.Sublist.refl _) ?_
              refine ws_if ?_
              refine wt_cmp ?_ (nomark _)
              refine wcB B.repr boot_repr ?_
              refine wa_cons ?_
              refine wv 8 rfl ?_
              refine wa_nil ?_
              refine cd_reprL (xs := t.rs.map RT.d) hgd (.inl rfl) hrr.1 (by have h5 : sizeLine = 2 ^ 24 := rfl; have := hrr.2.1; have := hk.rl; have := hk.ml; omega) (Nat.lt_of_le_of_lt (Nat.add_le_add_left (Nat.add_le_add_right hrr.2.2 2) _) (hr.un' (by decide))) ?_
              refine wcB B.repr boot_repr ?_
              refine wa_cons ?_
              refine wcT B.list boot_list ?_
              refine wa_cons ?_
              refine we_ix ?_ (fun _ _ => rfl)
              refine wv 5 rfl ?_
              refine we_int ?_
              refine ix_tup (j := 2) rfl rfl ?_
              refine wa_nil ?_
              refine cd_list (.inr (.inl rfl)) (fun l_8 => ?_)
              refine wa_nil ?_
              refine cd_reprL (xs := t.rs.map RT.d) hgd (.inr ⟨0, _, rfl, rfl⟩) hrr.1 (by have h5 : sizeLine = 2 ^ 24 := rfl; have := hrr.2.1; have := hk.rl; have := hk.ml; omega) (Nat.lt_of_le_of_lt (Nat.add_le_add_left (Nat.add_le_add_right hrr.2.2 2) _) (hr.un' (by decide))) ?_
              refine od_neS ?_
              rw [decide_eq_true rfl]
              refine ⟨_, rfl, ?_⟩
              refine ⟨fun hb => ?_, fun hb => ?_⟩
              · walk_at "dead"
              · walk_at "tidy"
                refine ws_nil ?_
                refine ws_wk (Γ' := [some (.lst (ns.map .int)), some (.adr l), none, none, none, some (t.d), some (.str (nlJ t.ls)), some (t.o C CR CM), none, none, none]) (M' := dl l l2 gs m) (by repeat (first | exact wkE | refine wkS ?_ | refine wkN ?_)) (.cons _ (.refl _)) ?_
                refine ws_if ?_
                refine wt_cmp ?_ (nomark _)
                refine wcB B.repr boot_repr ?_
                refine wa_cons ?_
                refine we_frz ?_
                refine we_mapT (own := [("_law_mark", 10)]) sc_law.nd (tg_name (j := 10) (by decide)) ?_ (blkOk_by (N := ["_law_script", "_law_deal_here", "_law_turn", "_law_names_here", "_law_many", "_law_site_here", "_law_text", "_law_made", "_law_told", "_law_room", "_law_mark"]) (sc := defScope s_law) (by decide +kernel)) (fun _ _ _ _ _ => pg_name (i := 10) sc_law.nd rfl (Or.inl rfl))
                refine we_attr ?_ (by rfl)
                refine wv 7 rfl ?_
                refine at_fld (.inl rfl) (lk_there (by decide) (lk_there (by decide) (lk_there (by decide) lk_here))) hSt.cls hSt.n4 ?_
                refine ⟨_, t.ms, gR CM "blur", fun _ => true, RT.d, rfl, ⟨(by have h5 : sizeLine = 2 ^ 24 := rfl; have := hk.rl; have := hk.ml; omega), fun _ _ => trivial, fun a9 ha9 l9 out s H C9 cl fp => ?_, fun a9 ha9 hp9 l9 out s H C9 cl fp => ?_⟩, fun l9 => ?_⟩
                · exact wts_nil ⟨rfl, rfl⟩
                · skip
                  refine we_tup ?_
                  refine wa_cons ?_
                  refine we_attr ?_ (by rfl)
                  refine wv 10 rfl ?_
                  refine at_fld (.inl rfl) lk_here hM.cls hM.nn ?_
                  refine wa_cons ?_
                  refine we_attr ?_ (by rfl)
                  refine wv 10 rfl ?_
                  refine at_fld (.inl rfl) (lk_there (by decide) lk_here) hM.cls hM.nl ?_
                  refine wa_cons ?_
                  refine we_attr ?_ (by rfl)
                  refine wv 10 rfl ?_
                  refine at_fld (.inl rfl) (lk_there (by decide) (lk_there (by decide) lk_here)) hM.cls hM.nh ?_
                  refine wa_cons ?_
                  refine we_attr ?_ (by rfl)
                  refine wv 10 rfl ?_
                  refine at_fld (.inl rfl) (lk_there (by decide) (lk_there (by decide) (lk_there (by decide) lk_here))) hM.cls hM.nb ?_
                  refine wa_nil ?_
                  refine ⟨(by walk_at "size"), ?_⟩
                  exact ⟨rfl, rfl⟩
                refine ⟨l9, _, _, rfl, rfl, ?_⟩
                rw [filt_true]
                refine wa_nil ?_
                refine cd_reprL (xs := t.ms.map RT.d) hgd (.inl rfl) hrm.1 (by have h5 : sizeLine = 2 ^ 24 := rfl; have := hrm.2.1; have := hk.rl; have := hk.ml; omega) (Nat.lt_of_le_of_lt (Nat.add_le_add_left (Nat.add_le_add_right hrm.2.2 2) _) (hr.un' (by decide))) ?_
                refine wcB B.repr boot_repr ?_
                refine wa_cons ?_
                refine wcT B.list boot_list ?_
                refine wa_cons ?_
                refine we_ix ?_ (fun _ _ => rfl)
                refine wv 5 rfl ?_
                refine we_int ?_
                refine ix_tup (j := 3) rfl rfl ?_
                refine wa_nil ?_
                refine cd_list (.inr (.inl rfl)) (fun l_8 => ?_)
                refine wa_nil ?_
                refine cd_reprL (xs := t.ms.map RT.d) hgd (.inr ⟨0, _, rfl, rfl⟩) hrm.1 (by have h5 : sizeLine = 2 ^ 24 := rfl; have := hrm.2.1; have := hk.rl; have := hk.ml; omega) (Nat.lt_of_le_of_lt (Nat.add_le_add_left (Nat.add_le_add_right hrm.2.2 2) _) (hr.un' (by decide))) ?_
                refine od_neS ?_
                rw [decide_eq_true rfl]
                refine ⟨_, rfl, ?_⟩
                refine ⟨fun hb => ?_, fun hb => ?_⟩
                · walk_at "dead"
                · walk_at "tidy"
                  refine ws_nil ?_
                  refine ws_wk (Γ' := [some (.lst (ns.map .int)), some (.adr l), none, none, none, some (t.d), some (.str (nlJ t.ls)), some (t.o C CR CM), none, none, none]) (M' := dl l l2 gs m) (by repeat (first | exact wkE | refine wkS ?_ | refine wkN ?_)) (.cons _ (.refl _)) ?_
                  refine ws_if ?_
                  refine wt_cmp ?_ (nomark _)
                  refine we_cm hRead (hr.mono (by decide)) ?_
                  refine wgl hmS ?_
                  refine ⟨rfl, ?_⟩
                  refine wa_cons ?_
                  refine we_join ?_
                  refine we_str ?_
                  refine ⟨_, rfl, ?_⟩
                  refine we_frz ?_
                  refine we_slO ?_
                  refine we_split ?_
                  refine wv 6 rfl ?_
                  refine ⟨_, rfl, (by have h5 : sizeLine = 2 ^ 24 := rfl; have := hk.joined; omega), ?_⟩
                  refine we_str ?_
                  refine ⟨_, rfl, nline1, ?_⟩
                  rw [hk.split]
                  refine wo_none ?_
                  refine wo_some ?_
                  refine we_int ?_
                  refine ⟨_, rfl, ?_⟩
                  refine ⟨_, .inl rfl, fun l9 => ⟨l9, _, _, rfl, rfl, ?_⟩⟩
                  rw [cut_two]
                  refine ⟨SiT.ls { t with rs := [], ms := [] }, .inl (.inl rfl), hk.two.small, ?_⟩
                  rw [show Txt.join "\n" (SiT.ls { t with rs := [], ms := [] }) = nlJ (SiT.ls { t with rs := [], ms := [] }) from rfl]
                  refine wa_nil ?_
                  refine ⟨{ t with rs := [], ms := [] }, rfl, hk.two, ?_⟩
                  refine we_x (wxm hSiteD (hr.mono (by decide)) ?_)
                  refine wa_cons ?_
                  refine we_ix ?_ (fun _ _ => rfl)
                  refine wv 5 rfl ?_
                  refine we_int ?_
                  refine ix_tup (j := 0) rfl rfl ?_
                  refine wa_cons ?_
                  refine we_ix ?_ (fun _ _ => rfl)
                  refine wv 5 rfl ?_
                  refine we_int ?_
                  refine ix_tup (j := 1) rfl rfl ?_
                  refine wa_nil ?_
                  intro l9
                  refine ⟨l9, _, _, _, _, [], [], _, rfl, rfl, hk.two.R7 hR hM hRI hMI (.inr rfl) (.inr rfl), .inr rfl, .inr rfl, rfl, _, _, rfl, ?_⟩
                  refine od_ownNe hEqS hNeS (hr.mono (by decide)) (.inl rfl) (.inl rfl) ⟨_, _, nlJ (SiT.ls { t with rs := [], ms := [] }), nlJ (SiT.ls { t with rs := [], ms := [] }), _, _, rfl, rfl, rfl, (fun M Φ q => ⟨{ t with rs := [], ms := [] }, rfl, hk.two, q⟩), (fun M Φ q => ⟨{ t with rs := [], ms := [] }, rfl, hk.two, q⟩), _, rfl, ?_⟩
                  rw [decide_eq_true rfl]
                  refine ⟨_, rfl, ?_⟩
                  refine ⟨fun hb => ?_, fun hb => ?_⟩
                  · walk_at "dead"
                  · walk_at "tidy"
                    refine ws_nil ?_
                    refine ws_wk (Γ' := [some (.lst (ns.map .int)), some (.adr l), none, none, none, none, none, none, none, none, none]) (M' := dl l l2 gs m) (by repeat (first | exact wkE | refine wkS ?_ | refine wkN ?_)) (List.Sublist.refl _) ?_
                    refine ws_nil ?_
                    exact ⟨rfl, gs, m, hg, rfl⟩
    · rintro Γ' M' ⟨rfl, gs, m, hg, rfl⟩
      refine ws_ret ?_
      refine we_cmp ?_ (nomark _)
      refine wcT B.str boot_str ?_
      refine wa_cons ?_
      refine we_x (wxm hSiteD (hr.mono (by decide)) ?_)
      refine wa_cons ?_
      refine we_tup ?_
      refine wa_cons ?_
      refine we_int ?_
      refine wa_cons ?_
      refine we_int ?_
      refine wa_nil ?_
      refine ⟨(by walk_at "size"), ?_⟩
      refine wa_cons ?_
      refine we_tup ?_
      refine wa_cons ?_
      refine we_int ?_
      refine wa_cons ?_
      refine we_int ?_
      refine wa_cons ?_
      refine we_int ?_
      refine wa_nil ?_
      refine ⟨(by walk_at "size"), ?_⟩
      refine wa_nil ?_
      intro l9
      refine ⟨l9, _, _, _, _, [], [], _, rfl, rfl, t1_ok.R7 hR hM hRI hMI (.inr rfl) (.inr rfl), .inr rfl, .inr rfl, rfl, _, _, rfl, ?_⟩
      refine wa_nil ?_
      refine cd_strO hStrS (hr.mono (by decide)) (.inl rfl) ⟨⟨3, 2, 0, 1, 2, [], []⟩, rfl, t1_ok, _, rfl, ?_⟩
      refine we_str ?_
      refine od_eqS ?_
      rw [decide_eq_true t1_txt]
      exact qq _
end
end Sl57

set_option Elab.async false
set_option linter.all false
set_option maxRecDepth 100000
set_option maxHeartbeats 0
namespace Sl57
open PySem PySem.Spec PyProof.Rows L2 Dt
theorem law_start {K : Fg} {H : Hp} {a : Addr} {ns : List Int} (hl : ns.length ≤ 63) (hS : SqL K H a (ns.map V.int)) : spOf K S_law [.ref a] H (fun v _ => v = .bl true) fun _ _ _ => False :=
  ⟨H, [], [.lst (ns.map .int)], fun d _ => d = .bl true, .cons (.lst hS (IsDs.ints (K := K) (P := H) ns).1 (IsDs.ints (K := K) (P := H) ns).2) .nil, ⟨Same.refl H, List.nodup_nil, fun _ _ h => by cases h⟩, ⟨ns, rfl, hl, rfl, fun _ => rfl⟩, fun v H' ⟨d, M', P', e, _, _, i⟩ => by
    subst e
    cases i
    rfl⟩
theorem hasMk2 {P : Program} {w : World} {K : Fg} {h base : Heap} {mg : Str → Option Value} {k : Nat} {C : Str} {fd : FuncData} {ps : List Str} {S : DS} (X : K.In h) (G : h.Ns mainGlobals mg) (b : Binds K fd ps []) (g : (He.Fa.mkr C).ok K = true) (g2 : (He.Fa.glo C).ok K = true) (F1 : FnOk P w K mg base CX0 k (locM C "__init__" K) fd ps (spOf K S)) : HasMk P w K mg base k (He.ga K C) C S := ⟨_, fd, ps, F1, He.mkr_ok g, He.glo_ok X G g2, b⟩
abbrev Pg : Program := (PySem.Challenge.rw_slipsights_k07_texts_of_sites).prog
def fa : List He.Fa := [.glo "_law_deal", .glo "_law_draw", .glo "_law_pick", .glo "is_integer", .glo "are_integers", .glo "is_cell", .int "MOST_LETTERS" 6, .str "LETTERS" letS, .glo "ROW_WORDS", .glo "FAULTS", .glo "is_name", .cls "Room", .noat "Room" "name", .noat "Room" "low", .noat "Room" "high", .noat "Room" "barred", .cls "Mark", .noat "Mark" "name", .noat "Mark" "low", .noat "Mark" "high", .noat "Mark" "blur", .glo "need_corners", .mkr "Room", .glo "Room", .mkr "Mark", .glo "Mark", .glo "is_sequence", .glo "is_size", .glo "are_slips", .glo "are_rooms", .glo "are_marks", .glo "has_twins", .cls "Site", .noat "Site" "size", .noat "Site" "slips", .noat "Site" "rooms", .noat "Site" "marks", .glo "InvalidSite", .mkr "Site", .glo "Site", .meth "Room" "__str__", .meth "Room" "__eq__", .meth "Mark" "__str__", .meth "Mark" "__eq__", .meth "Site" "__str__", .meth "Site" "__eq__", .glo "_law_mixed", .glo "_law_names", .glo "_law_corners", .glo "_law_site", .glo "_law_numbers_text", .glo "_law_site_lines", .glo "_law_site_of", .str "DIGITS" digS, .glo "number_in", .glo "numbers_in", .glo "size_in", .glo "slips_in", .glo "thing_in", .free "len", .free "all", .free "any", .free "isinstance", .free "int", .free "bool", .free "str", .free "tuple", .free "list", .free "range", .free "enumerate", .free "zip", .free "abs", .free "max", .free "min", .free "sum", .free "sorted", .free "repr", .free "set", .glo "law"]
abbrev s_InvalidSite_init : Stmt := inClass (top 3) 0
abbrev dx_0 : Df := ⟨locM "InvalidSite" "__init__", "__init__", "InvalidSite.__init__", defArgs s_InvalidSite_init, defBody s_InvalidSite_init, defScope s_InvalidSite_init, [], []⟩
def fx : List Df := [dx_0]
def fn : List Df := [⟨locG "_law_deal", "_law_deal", "_law_deal", defArgs s_Ldeal, defBody s_Ldeal, defScope s_Ldeal, [], []⟩,
  ⟨locG "_law_draw", "_law_draw", "_law_draw", defArgs s_Ldraw, defBody s_Ldraw, defScope s_Ldraw, [], []⟩,
  ⟨locG "_law_pick", "_law_pick", "_law_pick", defArgs s_Lpick, defBody s_Lpick, defScope s_Lpick, [], []⟩,
  ⟨locG "is_integer", "is_integer", "is_integer", defArgs s_is_integer, defBody s_is_integer, defScope s_is_integer, [], []⟩,
  ⟨locG "are_integers", "are_integers", "are_integers", defArgs s_are_integers, defBody s_are_integers, defScope s_are_integers, [], []⟩,
  ⟨locG "is_cell", "is_cell", "is_cell", defArgs s_is_cell, defBody s_is_cell, defScope s_is_cell, [], []⟩,
  ⟨locG "is_name", "is_name", "is_name", defArgs s_is_name, defBody s_is_name, defScope s_is_name, [], []⟩,
  ⟨locG "need_corners", "need_corners", "need_corners", defArgs s_need_corners, defBody s_need_corners, defScope s_need_corners, [], []⟩,
  ⟨locM "Room" "__init__", "__init__", "Room.__init__", defArgs s_Room_init, defBody s_Room_init, defScope s_Room_init, [He.Dv.bl false], []⟩,
  ⟨locM "Mark" "__init__", "__init__", "Mark.__init__", defArgs s_Mark_init, defBody s_Mark_init, defScope s_Mark_init, [], []⟩,
  ⟨locG "is_sequence", "is_sequence", "is_sequence", defArgs s_is_sequence, defBody s_is_sequence, defScope s_is_sequence, [], []⟩,
  ⟨locG "is_size", "is_size", "is_size", defArgs s_is_size, defBody s_is_size, defScope s_is_size, [], []⟩,
  ⟨locG "are_slips", "are_slips", "are_slips", defArgs s_are_slips, defBody s_are_slips, defScope s_are_slips, [], []⟩,
  ⟨locG "are_rooms", "are_rooms", "are_rooms", defArgs s_are_rooms, defBody s_are_rooms, defScope s_are_rooms, [], []⟩,
  ⟨locG "are_marks", "are_marks", "are_marks", defArgs s_are_marks, defBody s_are_marks, defScope s_are_marks, [], []⟩,
  ⟨locG "has_twins", "has_twins", "has_twins", defArgs s_has_twins, defBody s_has_twins, defScope s_has_twins, [], []⟩,
  ⟨locM "Site" "__init__", "__init__", "Site.__init__", defArgs s_Site_init, defBody s_Site_init, defScope s_Site_init, [He.Dv.adr (He.dflAt ("Site", some "__init__") 0), He.Dv.adr (He.dflAt ("Site", some "__init__") 1)], []⟩,
  ⟨locM "Room" "__str__", "__str__", "Room.__str__", defArgs s_Room_str, defBody s_Room_str, defScope s_Room_str, [], []⟩,
  ⟨locM "Room" "__eq__", "__eq__", "Room.__eq__", defArgs s_Room_eq, defBody s_Room_eq, defScope s_Room_eq, [], []⟩,
  ⟨locM "Mark" "__str__", "__str__", "Mark.__str__", defArgs s_Mark_str, defBody s_Mark_str, defScope s_Mark_str, [], []⟩,
  ⟨locM "Mark" "__eq__", "__eq__", "Mark.__eq__", defArgs s_Mark_eq, defBody s_Mark_eq, defScope s_Mark_eq, [], []⟩,
  ⟨locM "Site" "__str__", "__str__", "Site.__str__", defArgs s_Site_str, defBody s_Site_str, defScope s_Site_str, [], []⟩,
  ⟨locM "Site" "__eq__", "__eq__", "Site.__eq__", defArgs s_Site_eq, defBody s_Site_eq, defScope s_Site_eq, [], []⟩,
  ⟨locG "_law_mixed", "_law_mixed", "_law_mixed", defArgs s_Lmixed, defBody s_Lmixed, defScope s_Lmixed, [], []⟩,
  ⟨locG "_law_names", "_law_names", "_law_names", defArgs s_Lnames, defBody s_Lnames, defScope s_Lnames, [], []⟩,
  ⟨locG "_law_corners", "_law_corners", "_law_corners", defArgs s_Lcorners, defBody s_Lcorners, defScope s_Lcorners, [], []⟩,
  ⟨locG "_law_site", "_law_site", "_law_site", defArgs s_Lsite, defBody s_Lsite, defScope s_Lsite, [], []⟩,
  ⟨locG "_law_numbers_text", "_law_numbers_text", "_law_numbers_text", defArgs s_Lnumbers_text, defBody s_Lnumbers_text, defScope s_Lnumbers_text, [], []⟩,
  ⟨locG "_law_site_lines", "_law_site_lines", "_law_site_lines", defArgs s_Lsite_lines, defBody s_Lsite_lines, defScope s_Lsite_lines, [], []⟩,
  ⟨locG "_law_site_of", "_law_site_of", "_law_site_of", defArgs s_Lsite_of, defBody s_Lsite_of, defScope s_Lsite_of, [], []⟩,
  ⟨locG "number_in", "number_in", "number_in", defArgs s_number_in, defBody s_number_in, defScope s_number_in, [], []⟩,
  ⟨locG "numbers_in", "numbers_in", "numbers_in", defArgs s_numbers_in, defBody s_numbers_in, defScope s_numbers_in, [], []⟩,
  ⟨locG "size_in", "size_in", "size_in", defArgs s_size_in, defBody s_size_in, defScope s_size_in, [], []⟩,
  ⟨locG "slips_in", "slips_in", "slips_in", defArgs s_slips_in, defBody s_slips_in, defScope s_slips_in, [], []⟩,
  ⟨locG "thing_in", "thing_in", "thing_in", defArgs s_thing_in, defBody s_thing_in, defScope s_thing_in, [], []⟩,
  ⟨locC "Site" "read", "read", "Site.read", defArgs s_Site_read, defBody s_Site_read, defScope s_Site_read, [], []⟩,
  ⟨locG "law", "law", "law", defArgs s_law, defBody s_law, defScope s_law, [], []⟩]
def ex (K : Fg) : Bool := (He.tupB K "ROW_WORDS" [.str "start", .str "go", .str "if", .str "else", .str "while", .str "see", .str "stop", .str "end", .str "never"]) && (He.tupB K "FAULTS" [.str "astray", .str "barred", .str "endless", .str "halted"]) && (isB K "Room") && (isB K "Mark") && (supB Pg.main.file K (He.ga K "InvalidSite") "word" "InvalidSite.__init__") && (decide (PySem.W.kitOne K (.type "tuple") (.ref (He.ga K "Room")) = some false)) && (decide (PySem.W.kitOne K (.type "str") (.ref (He.ga K "Room")) = some false)) && (decide (PySem.W.kitOne K (.type "NoneType") (.ref (He.ga K "Room")) = some false)) && (decide (PySem.W.subIn K (.ref (He.ga K "Room")) (.type "tuple") = some false)) && (decide (PySem.W.subIn K (.ref (He.ga K "Room")) (.type "str") = some false)) && (decide (PySem.W.subIn K (.ref (He.ga K "Room")) (.type "NoneType") = some false)) && (neB K "Room") && (decide (PySem.W.kitOne K (.type "tuple") (.ref (He.ga K "Mark")) = some false)) && (decide (PySem.W.kitOne K (.type "str") (.ref (He.ga K "Mark")) = some false)) && (decide (PySem.W.kitOne K (.type "NoneType") (.ref (He.ga K "Mark")) = some false)) && (decide (PySem.W.subIn K (.ref (He.ga K "Mark")) (.type "tuple") = some false)) && (decide (PySem.W.subIn K (.ref (He.ga K "Mark")) (.type "str") = some false)) && (decide (PySem.W.subIn K (.ref (He.ga K "Mark")) (.type "NoneType") = some false)) && (neB K "Mark") && (isB K "Site") && (decide (PySem.W.kitOne K (.type "tuple") (.ref (He.ga K "Site")) = some false)) && (decide (PySem.W.kitOne K (.type "str") (.ref (He.ga K "Site")) = some false)) && (decide (PySem.W.kitOne K (.type "NoneType") (.ref (He.ga K "Site")) = some false)) && (decide (PySem.W.subIn K (.ref (He.ga K "Site")) (.type "tuple") = some false)) && (decide (PySem.W.subIn K (.ref (He.ga K "Site")) (.type "str") = some false)) && (decide (PySem.W.subIn K (.ref (He.ga K "Site")) (.type "NoneType") = some false)) && (neB K "Site") && (nilB K (He.dflAt ("Site", some "__init__") 0 K)) && (nilB K (He.dflAt ("Site", some "__init__") 1 K)) && (decide (PySem.W.kitOne K (.ref (He.ga K "Mark")) (.ref (He.ga K "Room")) = some false)) && (cmB K "Site" "read")
theorem ex_0 {K : Fg} (h : ex K = true) : (He.tupB K "ROW_WORDS" [.str "start", .str "go", .str "if", .str "else", .str "while", .str "see", .str "stop", .str "end", .str "never"]) = true := by
  unfold ex at h
  simp only [Bool.and_eq_true] at h
  simp only [h]
theorem ex_1 {K : Fg} (h : ex K = true) : (He.tupB K "FAULTS" [.str "astray", .str "barred", .str "endless", .str "halted"]) = true := by
  unfold ex at h
  simp only [Bool.and_eq_true] at h
  simp only [h]
theorem ex_2 {K : Fg} (h : ex K = true) : (isB K "Room") = true := by
  unfold ex at h
  simp only [Bool.and_eq_true] at h
  simp only [h]
theorem ex_3 {K : Fg} (h : ex K = true) : (isB K "Mark") = true := by
  unfold ex at h
  simp only [Bool.and_eq_true] at h
  simp only [h]
theorem ex_4 {K : Fg} (h : ex K = true) : (supB Pg.main.file K (He.ga K "InvalidSite") "word" "InvalidSite.__init__") = true := by
  unfold ex at h
  simp only [Bool.and_eq_true] at h
  simp only [h]
theorem ex_5 {K : Fg} (h : ex K = true) : (decide (PySem.W.kitOne K (.type "tuple") (.ref (He.ga K "Room")) = some false)) = true := by
  unfold ex at h
  simp only [Bool.and_eq_true] at h
  simp only [h]
theorem ex_6 {K : Fg} (h : ex K = true) : (decide (PySem.W.kitOne K (.type "str") (.ref (He.ga K "Room")) = some false)) = true := by
  unfold ex at h
  simp only [Bool.and_eq_true] at h
  simp only [h]
theorem ex_7 {K : Fg} (h : ex K = true) : (decide (PySem.W.kitOne K (.type "NoneType") (.ref (He.ga K "Room")) = some false)) = true := by
  unfold ex at h
  simp only [Bool.and_eq_true] at h
  simp only [h]
theorem ex_8 {K : Fg} (h : ex K = true) : (decide (PySem.W.subIn K (.ref (He.ga K "Room")) (.type "tuple") = some false)) = true := by
  unfold ex at h
  simp only [Bool.and_eq_true] at h
  simp only [h]
theorem ex_9 {K : Fg} (h : ex K = true) : (decide (PySem.W.subIn K (.ref (He.ga K "Room")) (.type "str") = some false)) = true := by
  unfold ex at h
  simp only [Bool.and_eq_true] at h
  simp only [h]
theorem ex_10 {K : Fg} (h : ex K = true) : (decide (PySem.W.subIn K (.ref (He.ga K "Room")) (.type "NoneType") = some false)) = true := by
  unfold ex at h
  simp only [Bool.and_eq_true] at h
  simp only [h]
theorem ex_11 {K : Fg} (h : ex K = true) : (neB K "Room") = true := by
  unfold ex at h
  simp only [Bool.and_eq_true] at h
  simp only [h]
theorem ex_12 {K : Fg} (h : ex K = true) : (decide (PySem.W.kitOne K (.type "tuple") (.ref (He.ga K "Mark")) = some false)) = true := by
  unfold ex at h
  simp only [Bool.and_eq_true] at h
  simp only [h]
theorem ex_13 {K : Fg} (h : ex K = true) : (decide (PySem.W.kitOne K (.type "str") (.ref (He.ga K "Mark")) = some false)) = true := by
  unfold ex at h
  simp only [Bool.and_eq_true] at h
  simp only [h]
theorem ex_14 {K : Fg} (h : ex K = true) : (decide (PySem.W.kitOne K (.type "NoneType") (.ref (He.ga K "Mark")) = some false)) = true := by
  unfold ex at h
  simp only [Bool.and_eq_true] at h
  simp only [h]
theorem ex_15 {K : Fg} (h : ex K = true) : (decide (PySem.W.subIn K (.ref (He.ga K "Mark")) (.type "tuple") = some false)) = true := by
  unfold ex at h
  simp only [Bool.and_eq_true] at h
  simp only [h]
theorem ex_16 {K : Fg} (h : ex K = true) : (decide (PySem.W.subIn K (.ref (He.ga K "Mark")) (.type "str") = some false)) = true := by
  unfold ex at h
  simp only [Bool.and_eq_true] at h
  simp only [h]
theorem ex_17 {K : Fg} (h : ex K = true) : (decide (PySem.W.subIn K (.ref (He.ga K "Mark")) (.type "NoneType") = some false)) = true := by
  unfold ex at h
  simp only [Bool.and_eq_true] at h
  simp only [h]
theorem ex_18 {K : Fg} (h : ex K = true) : (neB K "Mark") = true := by
  unfold ex at h
  simp only [Bool.and_eq_true] at h
  simp only [h]
theorem ex_19 {K : Fg} (h : ex K = true) : (isB K "Site") = true := by
  unfold ex at h
  simp only [Bool.and_eq_true] at h
  simp only [h]
theorem ex_20 {K : Fg} (h : ex K = true) : (decide (PySem.W.kitOne K (.type "tuple") (.ref (He.ga K "Site")) = some false)) = true := by
  unfold ex at h
  simp only [Bool.and_eq_true] at h
  simp only [h]
theorem ex_21 {K : Fg} (h : ex K = true) : (decide (PySem.W.kitOne K (.type "str") (.ref (He.ga K "Site")) = some false)) = true := by
  unfold ex at h
  simp only [Bool.and_eq_true] at h
  simp only [h]
theorem ex_22 {K : Fg} (h : ex K = true) : (decide (PySem.W.kitOne K (.type "NoneType") (.ref (He.ga K "Site")) = some false)) = true := by
  unfold ex at h
  simp only [Bool.and_eq_true] at h
  simp only [h]
theorem ex_23 {K : Fg} (h : ex K = true) : (decide (PySem.W.subIn K (.ref (He.ga K "Site")) (.type "tuple") = some false)) = true := by
  unfold ex at h
  simp only [Bool.and_eq_true] at h
  simp only [h]
theorem ex_24 {K : Fg} (h : ex K = true) : (decide (PySem.W.subIn K (.ref (He.ga K "Site")) (.type "str") = some false)) = true := by
  unfold ex at h
  simp only [Bool.and_eq_true] at h
  simp only [h]
theorem ex_25 {K : Fg} (h : ex K = true) : (decide (PySem.W.subIn K (.ref (He.ga K "Site")) (.type "NoneType") = some false)) = true := by
  unfold ex at h
  simp only [Bool.and_eq_true] at h
  simp only [h]
theorem ex_26 {K : Fg} (h : ex K = true) : (neB K "Site") = true := by
  unfold ex at h
  simp only [Bool.and_eq_true] at h
  simp only [h]
theorem ex_27 {K : Fg} (h : ex K = true) : (nilB K (He.dflAt ("Site", some "__init__") 0 K)) = true := by
  unfold ex at h
  simp only [Bool.and_eq_true] at h
  simp only [h]
theorem ex_28 {K : Fg} (h : ex K = true) : (nilB K (He.dflAt ("Site", some "__init__") 1 K)) = true := by
  unfold ex at h
  simp only [Bool.and_eq_true] at h
  simp only [h]
theorem ex_29 {K : Fg} (h : ex K = true) : (decide (PySem.W.kitOne K (.ref (He.ga K "Mark")) (.ref (He.ga K "Room")) = some false)) = true := by
  unfold ex at h
  simp only [Bool.and_eq_true] at h
  simp only [h]
theorem ex_30 {K : Fg} (h : ex K = true) : (cmB K "Site" "read") = true := by
  unfold ex at h
  simp only [Bool.and_eq_true] at h
  simp only [h]
abbrev R : PySem.W.OpenRow := PySem.W.OpenLaw.row PySem.Challenge.rw_slipsights_k07_texts_of_sites
abbrev hk : PySem.W.Hook := hookQ 6 fa fn fx ex
def ob : PySem.W.SharedT → AlQ := obQ 6 fa fn fx ex
theorem ob_eq (s : PySem.W.SharedT) : ob s = hk.obs s.abs := obQ_eq s
def loose : List PySem.Str := (["_wall", "SightError", "InvalidSite", "InvalidText", "FAULTS", "ROW_WORDS", "LETTERS", "DIGITS", "MOST_LETTERS", "is_integer", "is_sequence", "is_name", "are_integers", "is_cell", "number_in", "numbers_in", "need_corners", "is_between", "Room", "Mark", "is_size", "are_slips", "are_rooms", "are_marks", "has_twins", "Site", "size_in", "slips_in", "thing_in", "_law_deal"] : List PySem.Str) ++ (["_law_draw", "_law_pick", "_law_mixed", "_law_names", "_law_corners", "_law_site", "_law_numbers_text", "_law_site_lines", "_law_site_of"] : List PySem.Str)
theorem run (w : World) : HandSHeadRun.RunEq R (PySem.W.view R.prog [43]) hk ob 20000 loose w := by
  intro os
  kernel_rfl
theorem hPt : (Pg.main.scope.names.lookup ("super" : Str)).isSome = false := by decide +kernel
theorem facts {P : Program} {w : World} {K : Fg} {h : Heap} {mg : Str → Option Value} {f : Addr} (hP : P = Pg) (X : K.In h) (G : h.Ns mainGlobals mg) (hfa : mg ("law" : Str) = some (.ref f)) (cq : ToldQ fa fn fx ex K) :
    ∃ fd : FuncData, (∀ (s : Shared) (v : Value), BindsTo s fd ⟨[v], []⟩ [("_law_script", v)]) ∧ ∀ base : Heap, K.In base → base.Ns mainGlobals mg → RunG P w K mg base 12 f fd ["_law_script"] (spOf K S_law) := by
  have c := cq.told
  have B : Bf mg := ⟨He.free_ok X G (c.fact (.free "len") (List.mem_of_getElem? (i := 59) rfl)), He.free_ok X G (c.fact (.free "all") (List.mem_of_getElem? (i := 60) rfl)), He.free_ok X G (c.fact (.free "any") (List.mem_of_getElem? (i := 61) rfl)), He.free_ok X G (c.fact (.free "isinstance") (List.mem_of_getElem? (i := 62) rfl)), He.free_ok X G (c.fact (.free "int") (List.mem_of_getElem? (i := 63) rfl)), He.free_ok X G (c.fact (.free "bool") (List.mem_of_getElem? (i := 64) rfl)), He.free_ok X G (c.fact (.free "str") (List.mem_of_getElem? (i := 65) rfl)), He.free_ok X G (c.fact (.free "tuple") (List.mem_of_getElem? (i := 66) rfl)), He.free_ok X G (c.fact (.free "list") (List.mem_of_getElem? (i := 67) rfl)), He.free_ok X G (c.fact (.free "range") (List.mem_of_getElem? (i := 68) rfl)), He.free_ok X G (c.fact (.free "enumerate") (List.mem_of_getElem? (i := 69) rfl)), He.free_ok X G (c.fact (.free "zip") (List.mem_of_getElem? (i := 70) rfl)), He.free_ok X G (c.fact (.free "abs") (List.mem_of_getElem? (i := 71) rfl)), He.free_ok X G (c.fact (.free "max") (List.mem_of_getElem? (i := 72) rfl)), He.free_ok X G (c.fact (.free "min") (List.mem_of_getElem? (i := 73) rfl)), He.free_ok X G (c.fact (.free "sum") (List.mem_of_getElem? (i := 74) rfl)), He.free_ok X G (c.fact (.free "sorted") (List.mem_of_getElem? (i := 75) rfl)), He.free_ok X G (c.fact (.free "repr") (List.mem_of_getElem? (i := 76) rfl)), He.free_ok X G (c.fact (.free "set") (List.mem_of_getElem? (i := 77) rfl))⟩
  obtain ⟨fd_Ldeal, F0_Ldeal⟩ := c.defn _ (List.mem_of_getElem? (i := 0) rfl)
  have F_Ldeal : FunD K "_law_deal" "_law_deal" (defArgs s_Ldeal) (defBody s_Ldeal) (defScope s_Ldeal) [] [] (locG "_law_deal" K) fd_Ldeal := F0_Ldeal
  have b_Ldeal := FunD.bindsN (ps := ["_law_script"]) F_Ldeal fun _ _ _ _ _ _ us hl => match us, hl with | [_], _ => rfl
  obtain ⟨fd_Ldraw, F0_Ldraw⟩ := c.defn _ (List.mem_of_getElem? (i := 1) rfl)
  have F_Ldraw : FunD K "_law_draw" "_law_draw" (defArgs s_Ldraw) (defBody s_Ldraw) (defScope s_Ldraw) [] [] (locG "_law_draw" K) fd_Ldraw := F0_Ldraw
  have b_Ldraw := FunD.bindsN (ps := ["_law_deal_here", "_law_many"]) F_Ldraw fun _ _ _ _ _ _ us hl => match us, hl with | [_, _], _ => rfl
  obtain ⟨fd_Lpick, F0_Lpick⟩ := c.defn _ (List.mem_of_getElem? (i := 2) rfl)
  have F_Lpick : FunD K "_law_pick" "_law_pick" (defArgs s_Lpick) (defBody s_Lpick) (defScope s_Lpick) [] [] (locG "_law_pick" K) fd_Lpick := F0_Lpick
  have b_Lpick := FunD.bindsN (ps := ["_law_deal_here", "_law_some"]) F_Lpick fun _ _ _ _ _ _ us hl => match us, hl with | [_, _], _ => rfl
  obtain ⟨fd_is_integer, F0_is_integer⟩ := c.defn _ (List.mem_of_getElem? (i := 3) rfl)
  have F_is_integer : FunD K "is_integer" "is_integer" (defArgs s_is_integer) (defBody s_is_integer) (defScope s_is_integer) [] [] (locG "is_integer" K) fd_is_integer := F0_is_integer
  have b_is_integer := FunD.bindsN (ps := ["value"]) F_is_integer fun _ _ _ _ _ _ us hl => match us, hl with | [_], _ => rfl
  obtain ⟨fd_are_integers, F0_are_integers⟩ := c.defn _ (List.mem_of_getElem? (i := 4) rfl)
  have F_are_integers : FunD K "are_integers" "are_integers" (defArgs s_are_integers) (defBody s_are_integers) (defScope s_are_integers) [] [] (locG "are_integers" K) fd_are_integers := F0_are_integers
  have b_are_integers := FunD.bindsN (ps := ["value", "many"]) F_are_integers fun _ _ _ _ _ _ us hl => match us, hl with | [_, _], _ => rfl
  obtain ⟨fd_is_cell, F0_is_cell⟩ := c.defn _ (List.mem_of_getElem? (i := 5) rfl)
  have F_is_cell : FunD K "is_cell" "is_cell" (defArgs s_is_cell) (defBody s_is_cell) (defScope s_is_cell) [] [] (locG "is_cell" K) fd_is_cell := F0_is_cell
  have b_is_cell := FunD.bindsN (ps := ["value"]) F_is_cell fun _ _ _ _ _ _ us hl => match us, hl with | [_], _ => rfl
  have hWG : WG K mg := ⟨He.int_ok X G (c.fact (.int "MOST_LETTERS" 6) (List.mem_of_getElem? (i := 6) rfl)), He.str_ok X G (c.fact (.str "LETTERS" letS) (List.mem_of_getElem? (i := 7) rfl)), ⟨_, He.glo_ok X G (c.fact (.glo "ROW_WORDS") (List.mem_of_getElem? (i := 8) rfl)), fun H => He.tupB_ok (ex_0 c.more) H⟩, ⟨_, He.glo_ok X G (c.fact (.glo "FAULTS") (List.mem_of_getElem? (i := 9) rfl)), fun H => He.tupB_ok (ex_1 c.more) H⟩⟩
  obtain ⟨fd_is_name, F0_is_name⟩ := c.defn _ (List.mem_of_getElem? (i := 6) rfl)
  have F_is_name : FunD K "is_name" "is_name" (defArgs s_is_name) (defBody s_is_name) (defScope s_is_name) [] [] (locG "is_name" K) fd_is_name := F0_is_name
  have b_is_name := FunD.bindsN (ps := ["value"]) F_is_name fun _ _ _ _ _ _ us hl => match us, hl with | [_], _ => rfl
  have hRm_Room : RmC K (He.ga K "Room") "barred" := ⟨He.cls_ok (c.fact (.cls "Room") (List.mem_of_getElem? (i := 11) rfl)), He.noat_ok (c.fact (.noat "Room" "name") (List.mem_of_getElem? (i := 12) rfl)), He.noat_ok (c.fact (.noat "Room" "low") (List.mem_of_getElem? (i := 13) rfl)), He.noat_ok (c.fact (.noat "Room" "high") (List.mem_of_getElem? (i := 14) rfl)), He.noat_ok (c.fact (.noat "Room" "barred") (List.mem_of_getElem? (i := 15) rfl))⟩
  have hRm_Mark : RmC K (He.ga K "Mark") "blur" := ⟨He.cls_ok (c.fact (.cls "Mark") (List.mem_of_getElem? (i := 16) rfl)), He.noat_ok (c.fact (.noat "Mark" "name") (List.mem_of_getElem? (i := 17) rfl)), He.noat_ok (c.fact (.noat "Mark" "low") (List.mem_of_getElem? (i := 18) rfl)), He.noat_ok (c.fact (.noat "Mark" "high") (List.mem_of_getElem? (i := 19) rfl)), He.noat_ok (c.fact (.noat "Mark" "blur") (List.mem_of_getElem? (i := 20) rfl))⟩
  have hI_Room : IsF K (He.ga K "Room") := isB_ok (He.cls_ok (c.fact (.cls "Room") (List.mem_of_getElem? (i := 11) rfl))) (ex_2 c.more)
  have hI_Mark : IsF K (He.ga K "Mark") := isB_ok (He.cls_ok (c.fact (.cls "Mark") (List.mem_of_getElem? (i := 16) rfl))) (ex_3 c.more)
  obtain ⟨fd_need_corners, F0_need_corners⟩ := c.defn _ (List.mem_of_getElem? (i := 7) rfl)
  have F_need_corners : FunD K "need_corners" "need_corners" (defArgs s_need_corners) (defBody s_need_corners) (defScope s_need_corners) [] [] (locG "need_corners" K) fd_need_corners := F0_need_corners
  have b_need_corners := FunD.bindsN (ps := ["name", "low", "high"]) F_need_corners fun _ _ _ _ _ _ us hl => match us, hl with | [_, _, _], _ => rfl
  obtain ⟨fd_Room_init, F0_Room_init⟩ := c.defn _ (List.mem_of_getElem? (i := 8) rfl)
  have F_Room_init : FunD K "__init__" "Room.__init__" (defArgs s_Room_init) (defBody s_Room_init) (defScope s_Room_init) [V.bl false] [] (locM "Room" "__init__" K) fd_Room_init := F0_Room_init
  have b0_Room_init := FunD.binds1 (ps := ["self", "name", "low", "high", "barred"]) F_Room_init 4 0 (by simp) rfl fun _ _ _ _ _ _ _ us its hu hi => match us, hu, its, hi with | [_, _, _, _], _, [_], _ => ⟨_, rfl, rfl⟩
  have b1_Room_init := FunD.binds1 (ps := ["self", "name", "low", "high", "barred"]) F_Room_init 5 1 (by simp) rfl fun _ _ _ _ _ _ _ us its hu hi => match us, hu, its, hi with | [_, _, _, _, _], _, [_], _ => ⟨_, rfl, rfl⟩
  have b_Room_init : Binds K fd_Room_init ["self", "name", "low", "high", "barred"] [] := by
    obtain ⟨ds, hv, hb⟩ := b1_Room_init
    cases hv
    exact hb
  obtain ⟨fd_Mark_init, F0_Mark_init⟩ := c.defn _ (List.mem_of_getElem? (i := 9) rfl)
  have F_Mark_init : FunD K "__init__" "Mark.__init__" (defArgs s_Mark_init) (defBody s_Mark_init) (defScope s_Mark_init) [] [] (locM "Mark" "__init__" K) fd_Mark_init := F0_Mark_init
  have b_Mark_init := FunD.bindsN (ps := ["self", "name", "low", "high", "blur"]) F_Mark_init fun _ _ _ _ _ _ us hl => match us, hl with | [_, _, _, _, _], _ => rfl
  obtain ⟨fd_is_sequence, F0_is_sequence⟩ := c.defn _ (List.mem_of_getElem? (i := 10) rfl)
  have F_is_sequence : FunD K "is_sequence" "is_sequence" (defArgs s_is_sequence) (defBody s_is_sequence) (defScope s_is_sequence) [] [] (locG "is_sequence" K) fd_is_sequence := F0_is_sequence
  have b_is_sequence := FunD.bindsN (ps := ["value"]) F_is_sequence fun _ _ _ _ _ _ us hl => match us, hl with | [_], _ => rfl
  obtain ⟨fd_is_size, F0_is_size⟩ := c.defn _ (List.mem_of_getElem? (i := 11) rfl)
  have F_is_size : FunD K "is_size" "is_size" (defArgs s_is_size) (defBody s_is_size) (defScope s_is_size) [] [] (locG "is_size" K) fd_is_size := F0_is_size
  have b_is_size := FunD.bindsN (ps := ["value"]) F_is_size fun _ _ _ _ _ _ us hl => match us, hl with | [_], _ => rfl
  obtain ⟨fd_are_slips, F0_are_slips⟩ := c.defn _ (List.mem_of_getElem? (i := 12) rfl)
  have F_are_slips : FunD K "are_slips" "are_slips" (defArgs s_are_slips) (defBody s_are_slips) (defScope s_are_slips) [] [] (locG "are_slips" K) fd_are_slips := F0_are_slips
  have b_are_slips := FunD.bindsN (ps := ["value"]) F_are_slips fun _ _ _ _ _ _ us hl => match us, hl with | [_], _ => rfl
  obtain ⟨fd_are_rooms, F0_are_rooms⟩ := c.defn _ (List.mem_of_getElem? (i := 13) rfl)
  have F_are_rooms : FunD K "are_rooms" "are_rooms" (defArgs s_are_rooms) (defBody s_are_rooms) (defScope s_are_rooms) [] [] (locG "are_rooms" K) fd_are_rooms := F0_are_rooms
  have b_are_rooms := FunD.bindsN (ps := ["value"]) F_are_rooms fun _ _ _ _ _ _ us hl => match us, hl with | [_], _ => rfl
  have hmg_Room : mg "Room" = some (.ref (He.ga K "Room")) := He.glo_ok X G (c.fact (.glo "Room") (List.mem_of_getElem? (i := 23) rfl))
  obtain ⟨fd_are_marks, F0_are_marks⟩ := c.defn _ (List.mem_of_getElem? (i := 14) rfl)
  have F_are_marks : FunD K "are_marks" "are_marks" (defArgs s_are_marks) (defBody s_are_marks) (defScope s_are_marks) [] [] (locG "are_marks" K) fd_are_marks := F0_are_marks
  have b_are_marks := FunD.bindsN (ps := ["value"]) F_are_marks fun _ _ _ _ _ _ us hl => match us, hl with | [_], _ => rfl
  have hmg_Mark : mg "Mark" = some (.ref (He.ga K "Mark")) := He.glo_ok X G (c.fact (.glo "Mark") (List.mem_of_getElem? (i := 25) rfl))
  obtain ⟨fd_has_twins, F0_has_twins⟩ := c.defn _ (List.mem_of_getElem? (i := 15) rfl)
  have F_has_twins : FunD K "has_twins" "has_twins" (defArgs s_has_twins) (defBody s_has_twins) (defScope s_has_twins) [] [] (locG "has_twins" K) fd_has_twins := F0_has_twins
  have b_has_twins := FunD.bindsN (ps := ["things"]) F_has_twins fun _ _ _ _ _ _ us hl => match us, hl with | [_], _ => rfl
  have hSt : StC K (He.ga K "Site") := ⟨He.cls_ok (c.fact (.cls "Site") (List.mem_of_getElem? (i := 32) rfl)), He.noat_ok (c.fact (.noat "Site" "size") (List.mem_of_getElem? (i := 33) rfl)), He.noat_ok (c.fact (.noat "Site" "slips") (List.mem_of_getElem? (i := 34) rfl)), He.noat_ok (c.fact (.noat "Site" "rooms") (List.mem_of_getElem? (i := 35) rfl)), He.noat_ok (c.fact (.noat "Site" "marks") (List.mem_of_getElem? (i := 36) rfl))⟩
  obtain ⟨fd_Site_init, F0_Site_init⟩ := c.defn _ (List.mem_of_getElem? (i := 16) rfl)
  have F_Site_init : FunD K "__init__" "Site.__init__" (defArgs s_Site_init) (defBody s_Site_init) (defScope s_Site_init) [V.ref (He.dflAt ("Site", some "__init__") 0 K), V.ref (He.dflAt ("Site", some "__init__") 1 K)] [] (locM "Site" "__init__" K) fd_Site_init := F0_Site_init
  have b0_Site_init := FunD.binds1 (ps := ["self", "size", "slips", "rooms", "marks"]) F_Site_init 3 0 (by simp) rfl fun _ _ _ _ _ _ _ us its hu hi => match us, hu, its, hi with | [_, _, _], _, [_, _], _ => ⟨_, rfl, rfl⟩
  have b1_Site_init := FunD.binds1 (ps := ["self", "size", "slips", "rooms", "marks"]) F_Site_init 4 1 (by simp) rfl fun _ _ _ _ _ _ _ us its hu hi => match us, hu, its, hi with | [_, _, _, _], _, [_, _], _ => ⟨_, rfl, rfl⟩
  have b2_Site_init := FunD.binds1 (ps := ["self", "size", "slips", "rooms", "marks"]) F_Site_init 5 2 (by simp) rfl fun _ _ _ _ _ _ _ us its hu hi => match us, hu, its, hi with | [_, _, _, _, _], _, [_, _], _ => ⟨_, rfl, rfl⟩
  have b_Site_init : Binds K fd_Site_init ["self", "size", "slips", "rooms", "marks"] [] := by
    obtain ⟨ds, hv, hb⟩ := b2_Site_init
    cases hv
    exact hb
  have hmg_Room : mg "Room" = some (.ref (He.ga K "Room")) := He.glo_ok X G (c.fact (.glo "Room") (List.mem_of_getElem? (i := 23) rfl))
  obtain ⟨fd_Room_str, F0_Room_str⟩ := c.defn _ (List.mem_of_getElem? (i := 17) rfl)
  have F_Room_str : FunD K "__str__" "Room.__str__" (defArgs s_Room_str) (defBody s_Room_str) (defScope s_Room_str) [] [] (locM "Room" "__str__" K) fd_Room_str := F0_Room_str
  have b_Room_str := FunD.bindsN (ps := ["self"]) F_Room_str fun _ _ _ _ _ _ us hl => match us, hl with | [_], _ => rfl
  obtain ⟨fd_Room_eq, F0_Room_eq⟩ := c.defn _ (List.mem_of_getElem? (i := 18) rfl)
  have F_Room_eq : FunD K "__eq__" "Room.__eq__" (defArgs s_Room_eq) (defBody s_Room_eq) (defScope s_Room_eq) [] [] (locM "Room" "__eq__" K) fd_Room_eq := F0_Room_eq
  have b_Room_eq := FunD.bindsN (ps := ["self", "other"]) F_Room_eq fun _ _ _ _ _ _ us hl => match us, hl with | [_, _], _ => rfl
  have hNt_Room : Nots K (He.ga K "Room") := ⟨of_decide_eq_true (ex_5 c.more), of_decide_eq_true (ex_6 c.more), of_decide_eq_true (ex_7 c.more), of_decide_eq_true (ex_8 c.more), of_decide_eq_true (ex_9 c.more), of_decide_eq_true (ex_10 c.more)⟩
  have hNe_Room : NeF K (He.ga K "Room") := neB_ok (ex_11 c.more)
  have hmg_Mark : mg "Mark" = some (.ref (He.ga K "Mark")) := He.glo_ok X G (c.fact (.glo "Mark") (List.mem_of_getElem? (i := 25) rfl))
  obtain ⟨fd_Mark_str, F0_Mark_str⟩ := c.defn _ (List.mem_of_getElem? (i := 19) rfl)
  have F_Mark_str : FunD K "__str__" "Mark.__str__" (defArgs s_Mark_str) (defBody s_Mark_str) (defScope s_Mark_str) [] [] (locM "Mark" "__str__" K) fd_Mark_str := F0_Mark_str
  have b_Mark_str := FunD.bindsN (ps := ["self"]) F_Mark_str fun _ _ _ _ _ _ us hl => match us, hl with | [_], _ => rfl
  obtain ⟨fd_Mark_eq, F0_Mark_eq⟩ := c.defn _ (List.mem_of_getElem? (i := 20) rfl)
  have F_Mark_eq : FunD K "__eq__" "Mark.__eq__" (defArgs s_Mark_eq) (defBody s_Mark_eq) (defScope s_Mark_eq) [] [] (locM "Mark" "__eq__" K) fd_Mark_eq := F0_Mark_eq
  have b_Mark_eq := FunD.bindsN (ps := ["self", "other"]) F_Mark_eq fun _ _ _ _ _ _ us hl => match us, hl with | [_, _], _ => rfl
  have hNt_Mark : Nots K (He.ga K "Mark") := ⟨of_decide_eq_true (ex_12 c.more), of_decide_eq_true (ex_13 c.more), of_decide_eq_true (ex_14 c.more), of_decide_eq_true (ex_15 c.more), of_decide_eq_true (ex_16 c.more), of_decide_eq_true (ex_17 c.more)⟩
  have hNe_Mark : NeF K (He.ga K "Mark") := neB_ok (ex_18 c.more)
  have hI_Site : IsF K (He.ga K "Site") := isB_ok (He.cls_ok (c.fact (.cls "Site") (List.mem_of_getElem? (i := 32) rfl))) (ex_19 c.more)
  have hNt_Site : Nots K (He.ga K "Site") := ⟨of_decide_eq_true (ex_20 c.more), of_decide_eq_true (ex_21 c.more), of_decide_eq_true (ex_22 c.more), of_decide_eq_true (ex_23 c.more), of_decide_eq_true (ex_24 c.more), of_decide_eq_true (ex_25 c.more)⟩
  have hmg_Site : mg "Site" = some (.ref (He.ga K "Site")) := He.glo_ok X G (c.fact (.glo "Site") (List.mem_of_getElem? (i := 39) rfl))
  have hNe_Site : NeF K (He.ga K "Site") := neB_ok (ex_26 c.more)
  obtain ⟨fd_Site_str, F0_Site_str⟩ := c.defn _ (List.mem_of_getElem? (i := 21) rfl)
  have F_Site_str : FunD K "__str__" "Site.__str__" (defArgs s_Site_str) (defBody s_Site_str) (defScope s_Site_str) [] [] (locM "Site" "__str__" K) fd_Site_str := F0_Site_str
  have b_Site_str := FunD.bindsN (ps := ["self"]) F_Site_str fun _ _ _ _ _ _ us hl => match us, hl with | [_], _ => rfl
  obtain ⟨fd_Site_eq, F0_Site_eq⟩ := c.defn _ (List.mem_of_getElem? (i := 22) rfl)
  have F_Site_eq : FunD K "__eq__" "Site.__eq__" (defArgs s_Site_eq) (defBody s_Site_eq) (defScope s_Site_eq) [] [] (locM "Site" "__eq__" K) fd_Site_eq := F0_Site_eq
  have b_Site_eq := FunD.bindsN (ps := ["self", "other"]) F_Site_eq fun _ _ _ _ _ _ us hl => match us, hl with | [_, _], _ => rfl
  obtain ⟨fd_Lmixed, F0_Lmixed⟩ := c.defn _ (List.mem_of_getElem? (i := 23) rfl)
  have F_Lmixed : FunD K "_law_mixed" "_law_mixed" (defArgs s_Lmixed) (defBody s_Lmixed) (defScope s_Lmixed) [] [] (locG "_law_mixed" K) fd_Lmixed := F0_Lmixed
  have b_Lmixed := FunD.bindsN (ps := ["_law_deal_here", "_law_some"]) F_Lmixed fun _ _ _ _ _ _ us hl => match us, hl with | [_, _], _ => rfl
  obtain ⟨fd_Lnames, F0_Lnames⟩ := c.defn _ (List.mem_of_getElem? (i := 24) rfl)
  have F_Lnames : FunD K "_law_names" "_law_names" (defArgs s_Lnames) (defBody s_Lnames) (defScope s_Lnames) [] [] (locG "_law_names" K) fd_Lnames := F0_Lnames
  have b_Lnames := FunD.bindsN (ps := ["_law_deal_here", "_law_many"]) F_Lnames fun _ _ _ _ _ _ us hl => match us, hl with | [_, _], _ => rfl
  obtain ⟨fd_Lcorners, F0_Lcorners⟩ := c.defn _ (List.mem_of_getElem? (i := 25) rfl)
  have F_Lcorners : FunD K "_law_corners" "_law_corners" (defArgs s_Lcorners) (defBody s_Lcorners) (defScope s_Lcorners) [] [] (locG "_law_corners" K) fd_Lcorners := F0_Lcorners
  have b_Lcorners := FunD.bindsN (ps := ["_law_deal_here", "_law_size"]) F_Lcorners fun _ _ _ _ _ _ us hl => match us, hl with | [_, _], _ => rfl
  obtain ⟨fd_Lsite, F0_Lsite⟩ := c.defn _ (List.mem_of_getElem? (i := 26) rfl)
  have F_Lsite : FunD K "_law_site" "_law_site" (defArgs s_Lsite) (defBody s_Lsite) (defScope s_Lsite) [] [] (locG "_law_site" K) fd_Lsite := F0_Lsite
  have b_Lsite := FunD.bindsN (ps := ["_law_deal_here", "_law_sizes", "_law_most", "_law_names_here"]) F_Lsite fun _ _ _ _ _ _ us hl => match us, hl with | [_, _, _, _], _ => rfl
  obtain ⟨fd_Lnumbers_text, F0_Lnumbers_text⟩ := c.defn _ (List.mem_of_getElem? (i := 27) rfl)
  have F_Lnumbers_text : FunD K "_law_numbers_text" "_law_numbers_text" (defArgs s_Lnumbers_text) (defBody s_Lnumbers_text) (defScope s_Lnumbers_text) [] [] (locG "_law_numbers_text" K) fd_Lnumbers_text := F0_Lnumbers_text
  have b_Lnumbers_text := FunD.bindsN (ps := ["_law_numbers"]) F_Lnumbers_text fun _ _ _ _ _ _ us hl => match us, hl with | [_], _ => rfl
  obtain ⟨fd_Lsite_lines, F0_Lsite_lines⟩ := c.defn _ (List.mem_of_getElem? (i := 28) rfl)
  have F_Lsite_lines : FunD K "_law_site_lines" "_law_site_lines" (defArgs s_Lsite_lines) (defBody s_Lsite_lines) (defScope s_Lsite_lines) [] [] (locG "_law_site_lines" K) fd_Lsite_lines := F0_Lsite_lines
  have b_Lsite_lines := FunD.bindsN (ps := ["_law_site_here"]) F_Lsite_lines fun _ _ _ _ _ _ us hl => match us, hl with | [_], _ => rfl
  obtain ⟨fd_Lsite_of, F0_Lsite_of⟩ := c.defn _ (List.mem_of_getElem? (i := 29) rfl)
  have F_Lsite_of : FunD K "_law_site_of" "_law_site_of" (defArgs s_Lsite_of) (defBody s_Lsite_of) (defScope s_Lsite_of) [] [] (locG "_law_site_of" K) fd_Lsite_of := F0_Lsite_of
  have b_Lsite_of := FunD.bindsN (ps := ["_law_site_here"]) F_Lsite_of fun _ _ _ _ _ _ us hl => match us, hl with | [_], _ => rfl
  have hDg : ∃ t, mg "DIGITS" = some (.str digS t) := He.str_ok X G (c.fact (.str "DIGITS" digS) (List.mem_of_getElem? (i := 53) rfl))
  have hkMR : PySem.W.kitOne K (.ref (He.ga K "Mark")) (.ref (He.ga K "Room")) = some false := of_decide_eq_true (ex_29 c.more)
  obtain ⟨fd_number_in, F0_number_in⟩ := c.defn _ (List.mem_of_getElem? (i := 30) rfl)
  have F_number_in : FunD K "number_in" "number_in" (defArgs s_number_in) (defBody s_number_in) (defScope s_number_in) [] [] (locG "number_in" K) fd_number_in := F0_number_in
  have b_number_in := FunD.bindsN (ps := ["text"]) F_number_in fun _ _ _ _ _ _ us hl => match us, hl with | [_], _ => rfl
  obtain ⟨fd_numbers_in, F0_numbers_in⟩ := c.defn _ (List.mem_of_getElem? (i := 31) rfl)
  have F_numbers_in : FunD K "numbers_in" "numbers_in" (defArgs s_numbers_in) (defBody s_numbers_in) (defScope s_numbers_in) [] [] (locG "numbers_in" K) fd_numbers_in := F0_numbers_in
  have b_numbers_in := FunD.bindsN (ps := ["words", "many"]) F_numbers_in fun _ _ _ _ _ _ us hl => match us, hl with | [_, _], _ => rfl
  obtain ⟨fd_size_in, F0_size_in⟩ := c.defn _ (List.mem_of_getElem? (i := 32) rfl)
  have F_size_in : FunD K "size_in" "size_in" (defArgs s_size_in) (defBody s_size_in) (defScope s_size_in) [] [] (locG "size_in" K) fd_size_in := F0_size_in
  have b_size_in := FunD.bindsN (ps := ["line"]) F_size_in fun _ _ _ _ _ _ us hl => match us, hl with | [_], _ => rfl
  obtain ⟨fd_slips_in, F0_slips_in⟩ := c.defn _ (List.mem_of_getElem? (i := 33) rfl)
  have F_slips_in : FunD K "slips_in" "slips_in" (defArgs s_slips_in) (defBody s_slips_in) (defScope s_slips_in) [] [] (locG "slips_in" K) fd_slips_in := F0_slips_in
  have b_slips_in := FunD.bindsN (ps := ["line"]) F_slips_in fun _ _ _ _ _ _ us hl => match us, hl with | [_], _ => rfl
  obtain ⟨fd_thing_in, F0_thing_in⟩ := c.defn _ (List.mem_of_getElem? (i := 34) rfl)
  have F_thing_in : FunD K "thing_in" "thing_in" (defArgs s_thing_in) (defBody s_thing_in) (defScope s_thing_in) [] [] (locG "thing_in" K) fd_thing_in := F0_thing_in
  have b_thing_in := FunD.bindsN (ps := ["line"]) F_thing_in fun _ _ _ _ _ _ us hl => match us, hl with | [_], _ => rfl
  obtain ⟨fd_Site_read, F0_Site_read⟩ := c.defn _ (List.mem_of_getElem? (i := 35) rfl)
  have F_Site_read : FunD K "read" "Site.read" (defArgs s_Site_read) (defBody s_Site_read) (defScope s_Site_read) [] [] (locC "Site" "read" K) fd_Site_read := F0_Site_read
  have b_Site_read := FunD.bindsN (ps := ["cls", "text"]) F_Site_read fun _ _ _ _ _ _ us hl => match us, hl with | [_, _], _ => rfl
  obtain ⟨fd_law, F0_law⟩ := c.defn _ (List.mem_of_getElem? (i := 36) rfl)
  have F_law : FunD K "law" "law" (defArgs s_law) (defBody s_law) (defScope s_law) [] [] (locG "law" K) fd_law := F0_law
  have b_law := FunD.bindsN (ps := ["_law_script"]) F_law fun _ _ _ _ _ _ us hl => match us, hl with | [_], _ => rfl
  have e := hfa.symm.trans (He.glo_ok X G (c.fact (.glo "law") (List.mem_of_getElem? (i := 78) rfl)))
  cases e
  have b := FunD.bindsA (ps := ["_law_script"]) F_law fun _ _ _ _ _ _ us hl => match us, hl with | [_], _ => rfl
  refine ⟨fd_law, fun s v => b s [v] rfl, fun base _ _ => ?_⟩
  have h_Ldeal : HasFn P w K mg base 1 "_law_deal" S_deal := hasFn X G F_Ldeal b_Ldeal (c.fact (.glo "_law_deal") (List.mem_of_getElem? (i := 0) rfl)) (ok_Ldeal F_Ldeal B)
  have h_Ldraw : HasFn P w K mg base 1 "_law_draw" S_draw := hasFn X G F_Ldraw b_Ldraw (c.fact (.glo "_law_draw") (List.mem_of_getElem? (i := 1) rfl)) (ok_Ldraw F_Ldraw B)
  have h_Lpick : HasFn P w K mg base 2 "_law_pick" S_pick := hasFn X G F_Lpick b_Lpick (c.fact (.glo "_law_pick") (List.mem_of_getElem? (i := 2) rfl)) (ok_Lpick F_Lpick B h_Ldraw)
  have h_is_integer : HasFn P w K mg base 1 "is_integer" S_is_integer := hasFn X G F_is_integer b_is_integer (c.fact (.glo "is_integer") (List.mem_of_getElem? (i := 3) rfl)) (ok_is_integer F_is_integer B)
  have h_are_integers : HasFn P w K mg base 2 "are_integers" S_are_integers := hasFn X G F_are_integers b_are_integers (c.fact (.glo "are_integers") (List.mem_of_getElem? (i := 4) rfl)) (ok_are_integers F_are_integers B h_is_integer)
  have h_are_integersO : HasFn P w K mg base 1 "are_integers" (S_are_integersO K) := hasFn X G F_are_integers b_are_integers (c.fact (.glo "are_integers") (List.mem_of_getElem? (i := 4) rfl)) (ok_are_integersO F_are_integers B)
  have h_is_cell : HasFn P w K mg base 3 "is_cell" S_is_cell := hasFn X G F_is_cell b_is_cell (c.fact (.glo "is_cell") (List.mem_of_getElem? (i := 5) rfl)) (ok_is_cell F_is_cell h_are_integers)
  have h_is_cellO : HasFn P w K mg base 3 "is_cell" (S_is_cellO K) := hasFn X G F_is_cell b_is_cell (c.fact (.glo "is_cell") (List.mem_of_getElem? (i := 5) rfl)) (ok_is_cellO F_is_cell h_are_integersO)
  have h_is_name : HasFn P w K mg base 1 "is_name" S_is_name := hasFn X G F_is_name b_is_name (c.fact (.glo "is_name") (List.mem_of_getElem? (i := 10) rfl)) (ok_is_name F_is_name B hWG)
  have h_need_corners : HasFn P w K mg base 4 "need_corners" S_need := hasFn X G F_need_corners b_need_corners (c.fact (.glo "need_corners") (List.mem_of_getElem? (i := 21) rfl)) (ok_need_corners F_need_corners h_is_name h_is_cell)
  have h_Room_init : HasMk P w K mg base 6 (He.ga K "Room") "Room" (S_room (He.ga K "Room")) := hasMk2 X G b_Room_init (c.fact (.mkr "Room") (List.mem_of_getElem? (i := 22) rfl)) (c.fact (.glo "Room") (List.mem_of_getElem? (i := 23) rfl)) (ok_Room_init F_Room_init B h_need_corners hRm_Room)
  have h_RoomD : HasMkD P w K mg base 6 (He.ga K "Room") "Room" [.bl false] (S_room (He.ga K "Room")) := hasMkD X G (dvs := [V.bl false]) b0_Room_init (fun P1 => .cons .bl .nil) (c.fact (.mkr "Room") (List.mem_of_getElem? (i := 22) rfl)) (c.fact (.glo "Room") (List.mem_of_getElem? (i := 23) rfl)) (ok_Room_init F_Room_init B h_need_corners hRm_Room)
  have h_Mark_init : HasMk P w K mg base 6 (He.ga K "Mark") "Mark" (S_mark (He.ga K "Mark")) := hasMk X G F_Mark_init b_Mark_init (c.fact (.mkr "Mark") (List.mem_of_getElem? (i := 24) rfl)) (c.fact (.glo "Mark") (List.mem_of_getElem? (i := 25) rfl)) (ok_Mark_init F_Mark_init B h_need_corners hRm_Mark h_is_integer)
  have h_is_sequence : HasFn P w K mg base 1 "is_sequence" S_is_seq := hasFn X G F_is_sequence b_is_sequence (c.fact (.glo "is_sequence") (List.mem_of_getElem? (i := 26) rfl)) (ok_is_sequence F_is_sequence B)
  have h_is_size : HasFn P w K mg base 3 "is_size" S_is_size := hasFn X G F_is_size b_is_size (c.fact (.glo "is_size") (List.mem_of_getElem? (i := 27) rfl)) (ok_is_size F_is_size h_are_integers)
  have h_are_slips : HasFn P w K mg base 3 "are_slips" S_are_slips := hasFn X G F_are_slips b_are_slips (c.fact (.glo "are_slips") (List.mem_of_getElem? (i := 28) rfl)) (ok_are_slips F_are_slips B h_are_integers)
  have h_are_rooms : HasFn P w K mg base 2 "are_rooms" (S_are K (He.ga K "Room")) := hasFn X G F_are_rooms b_are_rooms (c.fact (.glo "are_rooms") (List.mem_of_getElem? (i := 29) rfl)) (fn_orD (ok_are_roomsN F_are_rooms B hmg_Room h_is_sequence) (fn_orD (S := fun ds M Φ => S_areS K (He.ga K "Room") .lst ds M Φ ∨ S_areS K (He.ga K "Room") .tup ds M Φ) (ok_are_roomsL F_are_rooms B hmg_Room h_is_sequence) (ok_are_roomsT F_are_rooms B hmg_Room h_is_sequence) (fun _ _ _ z => z)) (fun _ _ _ => are_or))
  have h_are_marks : HasFn P w K mg base 2 "are_marks" (S_are K (He.ga K "Mark")) := hasFn X G F_are_marks b_are_marks (c.fact (.glo "are_marks") (List.mem_of_getElem? (i := 30) rfl)) (fn_orD (ok_are_marksN F_are_marks B hmg_Mark h_is_sequence) (fn_orD (S := fun ds M Φ => S_areS K (He.ga K "Mark") .lst ds M Φ ∨ S_areS K (He.ga K "Mark") .tup ds M Φ) (ok_are_marksL F_are_marks B hmg_Mark h_is_sequence) (ok_are_marksT F_are_marks B hmg_Mark h_is_sequence) (fun _ _ _ z => z)) (fun _ _ _ => are_or))
  have h_has_twins : HasFn P w K mg base 1 "has_twins" (S_tw K) := hasFn X G F_has_twins b_has_twins (c.fact (.glo "has_twins") (List.mem_of_getElem? (i := 31) rfl)) (fn_orD (ok_has_twinsL F_has_twins B) (ok_has_twinsT F_has_twins B) (fun _ _ _ => tw_or))
  have h_InvalidSite : HasEx P w K mg base 1 (He.ga K "InvalidSite") "InvalidSite" "word" := hasEx (d := dx_0) X G rfl (cq.defx _ (List.mem_of_getElem? (i := 0) rfl)) (by rw [hP]; exact (ex_4 c.more)) (c.fact (.glo "InvalidSite") (List.mem_of_getElem? (i := 37) rfl)) (by rw [hP]; exact hPt) rfl ⟨rfl, rfl, rfl, rfl, rfl, rfl, rfl, by decide +kernel, by decide +kernel⟩ (by decide) (by decide) (by decide) (by decide) rfl rfl (fun _ => rfl) (fun _ => rfl) (fun _ => rfl) (fun _ _ _ _ _ _ _ us hl => match us, hl with | [_, _], _ => rfl)
  have h_St1 : HasMkX P w K mg base 4 (He.ga K "Site") "Site" [] (S_siteX (He.ga K "Site") (He.ga K "InvalidSite") "size" R1) := hasMkX X G (dvs := []) b2_Site_init (fun _ => .nil) (c.fact (.mkr "Site") (List.mem_of_getElem? (i := 38) rfl)) (c.fact (.glo "Site") (List.mem_of_getElem? (i := 39) rfl)) (ok_Site_init1 F_Site_init B hSt h_InvalidSite h_is_size h_are_slips h_are_rooms h_are_marks h_has_twins)
  have h_St2 : HasMkX P w K mg base 4 (He.ga K "Site") "Site" [] (S_siteX (He.ga K "Site") (He.ga K "InvalidSite") "slips" R2) := hasMkX X G (dvs := []) b2_Site_init (fun _ => .nil) (c.fact (.mkr "Site") (List.mem_of_getElem? (i := 38) rfl)) (c.fact (.glo "Site") (List.mem_of_getElem? (i := 39) rfl)) (ok_Site_init2 F_Site_init B hSt h_InvalidSite h_is_size h_are_slips h_are_rooms h_are_marks h_has_twins)
  have h_St3 : HasMkX P w K mg base 4 (He.ga K "Site") "Site" [] (S_siteX (He.ga K "Site") (He.ga K "InvalidSite") "rooms" (R3 K (He.ga K "Room"))) := hasMkX X G (dvs := []) b2_Site_init (fun _ => .nil) (c.fact (.mkr "Site") (List.mem_of_getElem? (i := 38) rfl)) (c.fact (.glo "Site") (List.mem_of_getElem? (i := 39) rfl)) (ok_Site_init3 F_Site_init B hSt h_InvalidSite h_is_size h_are_slips h_are_rooms h_are_marks h_has_twins)
  have h_St4 : HasMkX P w K mg base 4 (He.ga K "Site") "Site" [] (S_siteX (He.ga K "Site") (He.ga K "InvalidSite") "marks" (R4 K (He.ga K "Room") (He.ga K "Mark"))) := hasMkX X G (dvs := []) b2_Site_init (fun _ => .nil) (c.fact (.mkr "Site") (List.mem_of_getElem? (i := 38) rfl)) (c.fact (.glo "Site") (List.mem_of_getElem? (i := 39) rfl)) (ok_Site_init4 F_Site_init B hSt h_InvalidSite h_is_size h_are_slips h_are_rooms h_are_marks h_has_twins)
  have h_St5 : HasMkX P w K mg base 4 (He.ga K "Site") "Site" [] (S_siteX (He.ga K "Site") (He.ga K "InvalidSite") "name" (R5 K (He.ga K "Room") (He.ga K "Mark"))) := hasMkX X G (dvs := []) b2_Site_init (fun _ => .nil) (c.fact (.mkr "Site") (List.mem_of_getElem? (i := 38) rfl)) (c.fact (.glo "Site") (List.mem_of_getElem? (i := 39) rfl)) (ok_Site_init5 F_Site_init B hSt h_InvalidSite h_is_size h_are_slips h_are_rooms h_are_marks h_has_twins)
  have h_St6 : HasMkX P w K mg base 4 (He.ga K "Site") "Site" [] (S_siteX (He.ga K "Site") (He.ga K "InvalidSite") "name" (R6 K (He.ga K "Room") (He.ga K "Mark"))) := hasMkX X G (dvs := []) b2_Site_init (fun _ => .nil) (c.fact (.mkr "Site") (List.mem_of_getElem? (i := 38) rfl)) (c.fact (.glo "Site") (List.mem_of_getElem? (i := 39) rfl)) (ok_Site_init6 F_Site_init B hSt h_InvalidSite h_is_size h_are_slips h_are_rooms h_are_marks h_has_twins)
  have h_St7 : HasMkX P w K mg base 4 (He.ga K "Site") "Site" [] (S_siteG (He.ga K "Site") (R7 K (He.ga K "Room") (He.ga K "Mark"))) := hasMkX X G (dvs := []) b2_Site_init (fun _ => .nil) (c.fact (.mkr "Site") (List.mem_of_getElem? (i := 38) rfl)) (c.fact (.glo "Site") (List.mem_of_getElem? (i := 39) rfl)) (ok_Site_init7 F_Site_init B hSt h_InvalidSite h_is_size h_are_slips h_are_rooms h_are_marks h_has_twins)
  have h_Room_str : HasMe P w K mg base 1 (He.ga K "Room") "__str__" (S_roomStr (He.ga K "Room")) := hasMe F_Room_str b_Room_str (c.fact (.meth "Room" "__str__") (List.mem_of_getElem? (i := 40) rfl)) (ok_Room_str F_Room_str hRm_Room)
  have h_Room_eq : HasMe P w K mg base 4 (He.ga K "Room") "__eq__" (S_eqR (He.ga K "Room") (S_roomStr (He.ga K "Room"))) := hasMe F_Room_eq b_Room_eq (c.fact (.meth "Room" "__eq__") (List.mem_of_getElem? (i := 41) rfl)) (ok_Room_eq F_Room_eq B hmg_Room hI_Room h_Room_str)
  have h_Room_eqT : HasMe P w K mg base 1 (He.ga K "Room") "__eq__" (S_eqRT K (He.ga K "Room")) := hasMe F_Room_eq b_Room_eq (c.fact (.meth "Room" "__eq__") (List.mem_of_getElem? (i := 41) rfl)) (ok_Room_eqT F_Room_eq B hmg_Room)
  have h_Room_eqO : HasMe P w K mg base 1 (He.ga K "Room") "__eq__" (S_eqRO K (He.ga K "Room")) := hasMe F_Room_eq b_Room_eq (c.fact (.meth "Room" "__eq__") (List.mem_of_getElem? (i := 41) rfl)) (ok_Room_eqO F_Room_eq B hmg_Room)
  have h_Mark_str : HasMe P w K mg base 1 (He.ga K "Mark") "__str__" (S_markStr (He.ga K "Mark")) := hasMe F_Mark_str b_Mark_str (c.fact (.meth "Mark" "__str__") (List.mem_of_getElem? (i := 42) rfl)) (ok_Mark_str F_Mark_str hRm_Mark)
  have h_Mark_eq : HasMe P w K mg base 4 (He.ga K "Mark") "__eq__" (S_eqR (He.ga K "Mark") (S_markStr (He.ga K "Mark"))) := hasMe F_Mark_eq b_Mark_eq (c.fact (.meth "Mark" "__eq__") (List.mem_of_getElem? (i := 43) rfl)) (ok_Mark_eq F_Mark_eq B hmg_Mark hI_Mark h_Mark_str)
  have h_Mark_eqT : HasMe P w K mg base 1 (He.ga K "Mark") "__eq__" (S_eqRT K (He.ga K "Mark")) := hasMe F_Mark_eq b_Mark_eq (c.fact (.meth "Mark" "__eq__") (List.mem_of_getElem? (i := 43) rfl)) (ok_Mark_eqT F_Mark_eq B hmg_Mark)
  have h_Mark_eqO : HasMe P w K mg base 1 (He.ga K "Mark") "__eq__" (S_eqRO K (He.ga K "Mark")) := hasMe F_Mark_eq b_Mark_eq (c.fact (.meth "Mark" "__eq__") (List.mem_of_getElem? (i := 43) rfl)) (ok_Mark_eqO F_Mark_eq B hmg_Mark)
  have h_Site_str : HasMe P w K mg base 4 (He.ga K "Site") "__str__" (S_siteStr (He.ga K "Room") (He.ga K "Mark") (He.ga K "Site")) := hasMe F_Site_str b_Site_str (c.fact (.meth "Site" "__str__") (List.mem_of_getElem? (i := 44) rfl)) (ok_Site_str F_Site_str B hSt h_Room_str h_Mark_str)
  have h_Site_eq : HasMe P w K mg base 7 (He.ga K "Site") "__eq__" (S_eqR (He.ga K "Site") (S_siteStr (He.ga K "Room") (He.ga K "Mark") (He.ga K "Site"))) := hasMe F_Site_eq b_Site_eq (c.fact (.meth "Site" "__eq__") (List.mem_of_getElem? (i := 45) rfl)) (ok_Site_eq F_Site_eq B hmg_Site hI_Site h_Site_str)
  have h_Site_eqT : HasMe P w K mg base 1 (He.ga K "Site") "__eq__" (S_eqRT K (He.ga K "Site")) := hasMe F_Site_eq b_Site_eq (c.fact (.meth "Site" "__eq__") (List.mem_of_getElem? (i := 45) rfl)) (ok_Site_eqT F_Site_eq B hmg_Site)
  have h_StD : HasMkX P w K mg base 4 (He.ga K "Site") "Site" [.tup [], .tup []] (S_siteG (He.ga K "Site") (R7 K (He.ga K "Room") (He.ga K "Mark"))) := hasMkX X G (dvs := [V.ref (He.dflAt ("Site", some "__init__") 0 K), V.ref (He.dflAt ("Site", some "__init__") 1 K)]) b0_Site_init (fun P1 => .cons (nilB_ok (ex_27 c.more) P1) (.cons (nilB_ok (ex_28 c.more) P1) .nil)) (c.fact (.mkr "Site") (List.mem_of_getElem? (i := 38) rfl)) (c.fact (.glo "Site") (List.mem_of_getElem? (i := 39) rfl)) (ok_Site_init7 F_Site_init B hSt h_InvalidSite h_is_size h_are_slips h_are_rooms h_are_marks h_has_twins)
  have h_Lmixed : HasFn P w K mg base 2 "_law_mixed" S_mixed := hasFn X G F_Lmixed b_Lmixed (c.fact (.glo "_law_mixed") (List.mem_of_getElem? (i := 46) rfl)) (ok_Lmixed F_Lmixed B h_Ldraw)
  have h_Lnames : HasFn P w K mg base 3 "_law_names" S_names := hasFn X G F_Lnames b_Lnames (c.fact (.glo "_law_names") (List.mem_of_getElem? (i := 47) rfl)) (ok_Lnames F_Lnames B h_Lmixed)
  have h_Lcorners : HasFn P w K mg base 2 "_law_corners" S_corners := hasFn X G F_Lcorners b_Lcorners (c.fact (.glo "_law_corners") (List.mem_of_getElem? (i := 48) rfl)) (ok_Lcorners F_Lcorners B h_Ldraw)
  have h_Lsite : HasFn P w K mg base 3 "_law_site" S_site6 := hasFn X G F_Lsite b_Lsite (c.fact (.glo "_law_site") (List.mem_of_getElem? (i := 49) rfl)) (ok_Lsite F_Lsite B h_Ldraw h_Lpick h_Lcorners)
  have h_Lnumbers_text : HasFn P w K mg base 1 "_law_numbers_text" S_numT := hasFn X G F_Lnumbers_text b_Lnumbers_text (c.fact (.glo "_law_numbers_text") (List.mem_of_getElem? (i := 50) rfl)) (ok_Lnumbers_text F_Lnumbers_text B)
  have h_Lsite_lines : HasFn P w K mg base 2 "_law_site_lines" S_lines := hasFn X G F_Lsite_lines b_Lsite_lines (c.fact (.glo "_law_site_lines") (List.mem_of_getElem? (i := 51) rfl)) (ok_Lsite_lines F_Lsite_lines B h_Lnumbers_text)
  have h_Lsite_of : HasFn P w K mg base 9 "_law_site_of" (S_siteOf (He.ga K "Site") (He.ga K "Room") (He.ga K "Mark")) := hasFn X G F_Lsite_of b_Lsite_of (c.fact (.glo "_law_site_of") (List.mem_of_getElem? (i := 52) rfl)) (ok_Lsite_of F_Lsite_of B h_Room_init h_Mark_init h_St7 hRm_Room hRm_Mark hI_Room hI_Mark)
  have h_number_in : HasFn P w K mg base 1 "number_in" S_numIn := hasFn X G F_number_in b_number_in (c.fact (.glo "number_in") (List.mem_of_getElem? (i := 54) rfl)) (ok_number_in F_number_in B hDg)
  have h_numbers_in : HasFn P w K mg base 2 "numbers_in" S_numsIn := hasFn X G F_numbers_in b_numbers_in (c.fact (.glo "numbers_in") (List.mem_of_getElem? (i := 55) rfl)) (ok_numbers_in F_numbers_in B h_number_in)
  have h_size_in : HasFn P w K mg base 4 "size_in" S_sizeIn := hasFn X G F_size_in b_size_in (c.fact (.glo "size_in") (List.mem_of_getElem? (i := 56) rfl)) (ok_size_in F_size_in B h_numbers_in h_is_size)
  have h_slips_in : HasFn P w K mg base 4 "slips_in" S_slipsIn := hasFn X G F_slips_in b_slips_in (c.fact (.glo "slips_in") (List.mem_of_getElem? (i := 57) rfl)) (ok_slips_in F_slips_in B h_numbers_in h_are_slips)
  have h_thing_inR : HasFn P w K mg base 8 "thing_in" (S_thingR (He.ga K "Room")) := hasFn X G F_thing_in b_thing_in (c.fact (.glo "thing_in") (List.mem_of_getElem? (i := 58) rfl)) (ok_thing_inR F_thing_in B h_numbers_in h_Room_init)
  have h_thing_inM : HasFn P w K mg base 8 "thing_in" (S_thingM (He.ga K "Mark")) := hasFn X G F_thing_in b_thing_in (c.fact (.glo "thing_in") (List.mem_of_getElem? (i := 58) rfl)) (ok_thing_inM F_thing_in B h_numbers_in h_Mark_init)
  have h_Site_read : HasCm P w K mg base 9 (He.ga K "Site") "read" (S_read (He.ga K "Site") (He.ga K "Room") (He.ga K "Mark")) := hasCm b_Site_read (ex_30 c.more) (ok_Site_read F_Site_read B h_St7 hRm_Room hRm_Mark hI_Room hI_Mark hmg_Room hkMR h_size_in h_slips_in h_thing_inR h_thing_inM)
  exact ok_law F_law B h_Room_init h_Mark_init h_St7 hRm_Room hRm_Mark hI_Room hI_Mark h_Ldeal h_Ldraw h_Lnames h_Lsite h_Lsite_lines h_Lsite_of h_StD hSt h_Site_str h_Site_eq hNe_Site h_Site_read hmg_Site
end Sl57
open PySem PySem.W PySem.Calls PyProof.Rows
theorem PySem.Challenge.cw_slipsights_k07_texts_of_sites_holds : PySem.Challenge.rw_slipsights_k07_texts_of_sites.Holds := by
  w_on; o_law
  refine HandSHeadRun.head_any (r := OpenLaw.row PySem.Challenge.rw_slipsights_k07_texts_of_sites) (q := view (OpenLaw.row PySem.Challenge.rw_slipsights_k07_texts_of_sites).prog [43]) (H := Sl57.hk) (ob := Sl57.ob) (M := 20000) (loose := Sl57.loose) (d := HandSHeadRun.topDef (OpenLaw.row PySem.Challenge.rw_slipsights_k07_texts_of_sites).prog 43) (kwd := []) Sl57.ob_eq
    (by kernel_rfl) (fun s => by kernel_rfl) Sl57.run (by kernel_rfl) (by kernel_rfl) (by kernel_rfl) (by rfl) (by first | assumption | decide +kernel) (by decide +kernel) ⟨rfl, rfl, rfl, rfl, rfl, by decide +kernel⟩ ?hw ?hc
  case hw => w_witness2
  case hc =>
    refine Dt.walk_ofG (l := PySem.Challenge.rw_slipsights_k07_texts_of_sites) (n := 63) (k := 12) (x := "_law_script") rfl (by decide) (by kernel_rfl) ⟨rfl, by decide, by decide⟩ ?F
    intro w mg fa h Y G hmg0
    obtain ⟨K, KX, c⟩ := Y
    have hmg : mg ("law" : PySem.Str) = some (.ref fa) := by
      have e : (HandSHeadRun.topDef (OpenLaw.row PySem.Challenge.rw_slipsights_k07_texts_of_sites).prog 43).name = ("law" : PySem.Str) := by kernel_rfl
      rw [← e]
      exact hmg0
    obtain ⟨fd, hb, hF⟩ := Sl57.facts (P := (PySem.Challenge.rw_slipsights_k07_texts_of_sites).prog) (w := w) rfl KX G hmg c
    exact ⟨K, fd, Dt.spOf K Sl57.S_law, KX, hb, fun H a ns hl _ hS => Sl57.law_start hl hS, hF⟩
