import PyProof.Rows.All
import Wide.All
import OpenK.AllK
import Wide.FinOn
import HandS.ForMost
import HandS.ExcField
import HandS.IsInst
import HandS.Flow
import HandS.Wide
import HandS.Defaults
import HandS.Property
import HandS.Style
import HandS.Zip
import HandS.SortInts
import HandS.SlotsOwn
import KE.GoesEnum
import PyProof.InstNe
import HandS.Head0
import HandS.Head1
import HandS.Head2
import HandS.HeadEnd
import HandS.HeadHook1
import HandS.HeadHook2
import HandS.Deep
import HandS.RaiseMore
import HandS.TupAny
import HandS.Strs
import HandS.SetFor
import KE.KExcSuper
import HandS.Exc
import HandS.ExcInit
import HandS.ExcSuper
import HandS.ExcIs
import KE.KExcIs
import HandS.DictComp
import PyProof.DictRoadsH
import PyProof.Rows.TupTab
import HandS.SetBool
import PyProof.SetRoads
import HandS.Iter
import PyProof.Rows.SeqMore
import KE.KCallOwn
import HandS.Text
import HandS.FStr
import PyProof.P3In
import PyProof.ReprRoads
import HandS.Star
import PyProof.ReprLen
import PyProof.StrLawsRepr
import PyProof.EqKinds
import PyProof.Rows.StrInSeq
import HandS.TupLe
import HandS.OwnEq
import HandS.TupMul
import HandS.ClsMeth
import HandS.CallLocal
import HandS.NoneIn
import PyProof.NeKinds
import KE.KExcInit
import PyProof.ExcBaseAll.IndexError
import HandS.Codes
import HandS.TryMany
import HandS.ExcValue
import PyProof.ExcBaseAll.LookupError
import PySem.Challenge.RW_slipsights_k01_errors_and_what_they_keep
set_option Elab.async false
set_option linter.all false
set_option maxRecDepth 100000
set_option maxHeartbeats 2000000
namespace Dt
open PySem PySem.Spec PyProof.Rows L2
/-- what a value stands for: a tree of data; adr a: the object at a, whatever it is -/
inductive D where
  | non | bl (b : Bool) | int (i : Int) | str (x : Str) | ty (n : String)
  | tup (xs : List D) | lst (xs : List D) | obj (C : Addr) (fs : List (Str × D)) | adr (a : Addr) | dic (ks : List (List Int)) | exc (a dd C : Addr) (fs : List (Str × D)) | exv (C : Addr) (fs : List (Str × D)) | dcs (kvs : List (Str × Str))
abbrev Ex (H H' : Hp) : Prop := Same H H'
/-- the hash of a tuple of numbers -/
def tkh (ks : List Int) : Int := reduceHash (Builtin.Tuple.tupleHashOf (ks.map hashInt))
/-- a dict at a whose keys are tuples of numbers -/
def tdO (a : Addr) (xs : List (List Int × Addr × Value)) : HO := .ext fun h => (a == sysModules) = false ∧ xs.length ≤ sizeLine ∧ (xs.map (·.1)).Nodup ∧ ∃ o es ep, h.get? a = some o ∧ o.ExactDict ∧ o.data = .dict es ep ∧ es.toList = xs.map fun x => (⟨tkh x.1, .ref x.2.1, x.2.2⟩ : DictEntry)
/-- an exception object at a, held as a value: its class, its dict -/
def ExV (cls : Value) (d : Option Addr) (a : Addr) : HO := .ext fun h => ∃ (oe : Obj) (vs : Array Value), h.get? a = some oe ∧ Zc cls d oe ∧ oe.data = .fields vs
/-- a dict of texts by texts -/
def dcO (kvs : List (Str × Str)) : HO := .dK (kvs.map fun kv => (Sum.inr kv.1, V.str kv.2))
inductive IsD (K : PySem.W.Frag) (P : Hp) : V → D → Prop
  | non : IsD K P .non .non
  | bl {b} : IsD K P (.bl b) (.bl b)
  | int {i} : IsD K P (.int i) (.int i)
  | str {x} : IsD K P (.str x) (.str x)
  | ty {n} : IsD K P (.ty n) (.ty n)
  | tup {a xs ds} (h : SqT K P a xs) (hl : xs.length = ds.length) (hi : ∀ (i : Nat) x d, xs[i]? = some x → ds[i]? = some d → IsD K P x d) : IsD K P (.ref a) (.tup ds)
  | lst {a xs ds} (h : SqL K P a xs) (hl : xs.length = ds.length) (hi : ∀ (i : Nat) x d, xs[i]? = some x → ds[i]? = some d → IsD K P x d) : IsD K P (.ref a) (.lst ds)
  | obj {a C dx fs ds} (h : P a = some (.ins C dx fs)) (hl : fs.map (·.1) = ds.map (·.1)) (hi : ∀ (i : Nat) x d, fs[i]? = some x → ds[i]? = some d → IsD K P x.2 d.2) : IsD K P (.ref a) (.obj C ds)
  | adr {a} : IsD K P (.ref a) (.adr a)
  | dic {a xs ks} (h : P a = some (tdO a xs)) (hk : xs.map (·.1) = ks) (hi : ∀ x ∈ xs, SqT K P x.2.1 (x.1.map V.int)) : IsD K P (.ref a) (.dic ks)
  | exc {a dd C fs ds} (h : P dd = some (.xd fs)) (hl : fs.map (·.1) = ds.map (·.1)) (hi : ∀ (i : Nat) x d, fs[i]? = some x → ds[i]? = some d → IsD K P x.2 d.2) : IsD K P (.ref a) (.exc a dd C ds)
  | exv {a dd C fs ds} (h0 : P a = some (ExV (.ref C) (some dd) a)) (h : P dd = some (.xd fs)) (hl : fs.map (·.1) = ds.map (·.1)) (hi : ∀ (i : Nat) x d, fs[i]? = some x → ds[i]? = some d → IsD K P x.2 d.2) : IsD K P (.ref a) (.exv C ds)
  | exn {a C} (h0 : P a = some (ExV (.ref C) none a)) : IsD K P (.ref a) (.exv C [])
  | dcs {a kvs} (h : P a = some (dcO kvs)) : IsD K P (.ref a) (.dcs kvs)
def IsDs (K : PySem.W.Frag) (P : Hp) (xs : List V) (ds : List D) : Prop := xs.length = ds.length ∧ ∀ (i : Nat) x d, xs[i]? = some x → ds[i]? = some d → IsD K P x d
def IsFs (K : PySem.W.Frag) (P : Hp) (fs : List (Str × V)) (ds : List (Str × D)) : Prop := fs.map (·.1) = ds.map (·.1) ∧ ∀ (i : Nat) x d, fs[i]? = some x → ds[i]? = some d → IsD K P x.2 d.2
section
variable {K : PySem.W.Frag} {P P' : Hp}
theorem Same.tupS {a : Addr} {xs : List V} (e : Ex P P') (h : SqT K P a xs) : SqT K P' a xs := by
  rcases h with (h | ⟨o, h⟩) | h
  · exact .inl (.inl (e _ _ h))
  · exact .inl (.inr ⟨o, e _ _ h⟩)
  · exact .inr h
theorem IsD.mono (e : Ex P P') {v : V} {d : D} (h : IsD K P v d) : IsD K P' v d := by
  induction h with
  | non => exact .non
  | bl => exact .bl
  | int => exact .int
  | str => exact .str
  | ty => exact .ty
  | tup h hl _ ih => exact .tup (Same.tupS e h) hl ih
  | lst h hl _ ih => exact .lst (e.seq h) hl ih
  | obj h hl _ ih => exact .obj (e _ _ h) hl ih
  | adr => exact .adr
  | dic h hk hi => exact .dic (e _ _ h) hk fun x hx => Same.tupS e (hi x hx)
  | exc h hl _ ih => exact .exc (e _ _ h) hl ih
  | exv h0 h hl _ ih => exact .exv (e _ _ h0) (e _ _ h) hl ih
  | exn h0 => exact .exn (e _ _ h0)
  | dcs h => exact .dcs (e _ _ h)
theorem IsDs.mono (e : Ex P P') {xs : List V} {ds : List D} (h : IsDs K P xs ds) : IsDs K P' xs ds := ⟨h.1, fun i x d a b => (h.2 i x d a b).mono e⟩
theorem IsFs.mono (e : Ex P P') {xs : List (Str × V)} {ds : List (Str × D)} (h : IsFs K P xs ds) : IsFs K P' xs ds := ⟨h.1, fun i x d a b => (h.2 i x d a b).mono e⟩
theorem IsDs.nil : IsDs K P [] [] := ⟨rfl, fun i x d h => by simp at h⟩
theorem IsDs.cons {x : V} {d : D} {xs : List V} {ds : List D} (h : IsD K P x d) (t : IsDs K P xs ds) : IsDs K P (x :: xs) (d :: ds) :=
  ⟨by rw [List.length_cons, List.length_cons, t.1], fun i y e a b => by
    cases i with
    | zero =>
      simp only [List.getElem?_cons_zero, Option.some.injEq] at a b
      subst a b
      exact h
    | succ i =>
      simp only [List.getElem?_cons_succ] at a b
      exact t.2 i y e a b⟩
theorem IsDs.uncons {xs : List V} {d : D} {ds : List D} (h : IsDs K P xs (d :: ds)) : ∃ x r, xs = x :: r ∧ IsD K P x d ∧ IsDs K P r ds := by
  obtain ⟨hl, hi⟩ := h
  cases xs with
  | nil => simp at hl
  | cons x r => exact ⟨x, r, rfl, hi 0 x d rfl rfl, by simpa using hl, fun i y e a b => hi (i + 1) y e (by simpa using a) (by simpa using b)⟩
theorem IsDs.unnil {xs : List V} (h : IsDs K P xs []) : xs = [] := List.length_eq_zero_iff.mp h.1
theorem IsDs.get {xs : List V} {ds : List D} {i : Nat} {d : D} (h : IsDs K P xs ds) (e : ds[i]? = some d) : ∃ x, xs[i]? = some x ∧ IsD K P x d := by
  obtain ⟨hl, hi⟩ := h
  have hb : i < xs.length := by rw [hl]; exact (List.getElem?_eq_some_iff.mp e).1
  exact ⟨xs[i], List.getElem?_eq_getElem hb, hi i _ d (List.getElem?_eq_getElem hb) e⟩
theorem IsFs.nil : IsFs K P [] [] := ⟨rfl, fun i x d h => by simp at h⟩
theorem IsFs.cons {f : Str} {x : V} {d : D} {xs : List (Str × V)} {ds : List (Str × D)} (h : IsD K P x d) (t : IsFs K P xs ds) : IsFs K P ((f, x) :: xs) ((f, d) :: ds) :=
  ⟨by rw [List.map_cons, List.map_cons, t.1], fun i y e a b => by
    cases i with
    | zero =>
      simp only [List.getElem?_cons_zero, Option.some.injEq] at a b
      subst a b
      exact h
    | succ i =>
      simp only [List.getElem?_cons_succ] at a b
      exact t.2 i y e a b⟩
theorem IsFs.uncons {f : Str} {d : D} {xs : List (Str × V)} {ds : List (Str × D)} (h : IsFs K P xs ((f, d) :: ds)) : ∃ x r, xs = (f, x) :: r ∧ IsD K P x d ∧ IsFs K P r ds := by
  obtain ⟨hl, hi⟩ := h
  cases xs with
  | nil => simp at hl
  | cons x r =>
    obtain ⟨g, x⟩ := x
    simp only [List.map_cons, List.cons.injEq] at hl
    obtain ⟨e, hl⟩ := hl
    subst e
    exact ⟨x, r, rfl, hi 0 (g, x) (g, d) rfl rfl, hl, fun i y e a b => hi (i + 1) y e (by simpa using a) (by simpa using b)⟩
theorem IsFs.unnil {xs : List (Str × V)} (h : IsFs K P xs []) : xs = [] := by
  have e := h.1
  cases xs with
  | nil => rfl
  | cons x r => simp at e
theorem IsFs.lookup {f : Str} {d : D} : ∀ {xs : List (Str × V)} {ds : List (Str × D)}, IsFs K P xs ds → ds.lookup f = some d → ∃ v, xs.lookup f = some v ∧ IsD K P v d
  | xs, [], h, e => by simp at e
  | xs, (g, d') :: ds, h, e => by
    obtain ⟨x, r, rfl, hx, hr⟩ := h.uncons
    by_cases hg : f = g
    · subst hg
      simp only [List.lookup_cons_self, Option.some.injEq] at e
      subst e
      exact ⟨x, by simp, hx⟩
    · have hg' : (f == g) = false := by simpa using hg
      rw [List.lookup_cons, hg'] at e
      obtain ⟨v, h1, h2⟩ := IsFs.lookup hr e
      exact ⟨v, by rw [List.lookup_cons, hg']; exact h1, h2⟩
theorem IsFs.length {xs : List (Str × V)} {ds : List (Str × D)} (h : IsFs K P xs ds) : xs.length = ds.length := by
  have e := congrArg List.length h.1
  rw [List.length_map, List.length_map] at e
  exact e
end
abbrev Sl := List (Option D)
/-- an object of one's own, that may change -/
inductive MO where
  | lst (ds : List D)
  | ins (C : Addr) (fs : List (Str × D))
abbrev Mem := List (Addr × MO)
def MHas (K : PySem.W.Frag) (P H : Hp) (a : Addr) : MO → Prop
  | .lst ds => ∃ xs, H a = some (.lst xs) ∧ IsDs K P xs ds
  | .ins C fs => ∃ dx xs, H a = some (.ins C dx xs) ∧ IsFs K P xs fs
structure MOk (K : PySem.W.Frag) (M : Mem) (P H : Hp) : Prop where
  ex : Ex P H
  nd : (M.map (·.1)).Nodup
  at_ : ∀ a o, (a, o) ∈ M → P a = none ∧ MHas K P H a o
structure SOk (K : PySem.W.Frag) (Γ : Sl) (P : Hp) (σ : L2.St) : Prop where
  len : Γ.length = σ.length
  at_ : ∀ (i : Nat) (d : D), Γ[i]? = some (some d) → ∃ v, σ[i]? = some (some v) ∧ IsD K P v d
section
variable {K : PySem.W.Frag} {M M' : Mem} {P P' H H' : Hp} {Γ : Sl} {σ : L2.St}
theorem MHas.mono {a : Addr} {o : MO} (e : Ex P P') (he : H a = H' a) (h : MHas K P H a o) : MHas K P' H' a o := by
  cases o with
  | lst ds =>
    obtain ⟨xs, h1, h2⟩ := h
    exact ⟨xs, by rw [← he]; exact h1, h2.mono e⟩
  | ins C fs =>
    obtain ⟨dx, xs, h1, h2⟩ := h
    exact ⟨dx, xs, by rw [← he]; exact h1, h2.mono e⟩
theorem MHas.some {a : Addr} {o : MO} (h : MHas K P H a o) : ∃ u, H a = some u := by
  cases o with
  | lst ds =>
    obtain ⟨xs, h1, h2⟩ := h
    exact ⟨_, h1⟩
  | ins C fs =>
    obtain ⟨dx, xs, h1, h2⟩ := h
    exact ⟨_, h1⟩
theorem SOk.mono (e : Ex P P') (h : SOk K Γ P σ) : SOk K Γ P' σ := ⟨h.len, fun i d q => let ⟨v, a, b⟩ := h.at_ i d q; ⟨v, a, b.mono e⟩⟩
/-- a new object, not of one's own to change -/
theorem MOk.push {a : Addr} {o : HO} (h : MOk K M P H) (ha : H a = none) : MOk K M (upd P a o) (upd H a o) ∧ Ex P (upd P a o) := by
  have hp : P a = none := h.ex.free ha
  have e1 : Ex P (upd P a o) := fun b u q => by
    rw [upd_ne (ne_of_none q hp)]
    exact q
  refine ⟨⟨fun b u q => ?_, h.nd, fun b u q => ?_⟩, e1⟩
  · by_cases hb : b = a
    · subst hb
      rw [upd_same] at q ⊢
      exact q
    · rw [upd_ne hb] at q ⊢
      exact h.ex _ _ q
  · obtain ⟨h1, h2⟩ := h.at_ b u q
    have hb : b ≠ a := fun z => by
      obtain ⟨w, hw⟩ := h2.some
      rw [z, ha] at hw
      cases hw
    exact ⟨by rw [upd_ne hb]; exact h1, h2.mono e1 (by rw [upd_ne hb])⟩
/-- a new object of one's own -/
theorem MOk.own {a : Addr} {o : HO} {m : MO} (h : MOk K M P H) (ha : H a = none) (hm : MHas K P (upd H a o) a m) : MOk K ((a, m) :: M) P (upd H a o) := by
  have hp : P a = none := h.ex.free ha
  refine ⟨fun b u q => ?_, ?_, fun b u q => ?_⟩
  · rw [upd_ne (ne_of_none q hp)]
    exact h.ex _ _ q
  · rw [List.map_cons, List.nodup_cons]
    refine ⟨fun hm => ?_, h.nd⟩
    obtain ⟨e, he, e2⟩ := List.mem_map.mp hm
    obtain ⟨w, hw⟩ := (h.at_ e.1 e.2 he).2.some
    rw [e2, ha] at hw
    cases hw
  · rcases List.mem_cons.mp q with e | q
    · cases e
      exact ⟨hp, hm⟩
    · obtain ⟨h1, h2⟩ := h.at_ b u q
      have hb : b ≠ a := fun z => by
        obtain ⟨w, hw⟩ := h2.some
        rw [z, ha] at hw
        cases hw
      exact ⟨h1, h2.mono (Same.refl P) (by rw [upd_ne hb])⟩
theorem MOk.get {k : Nat} {a : Addr} {m : MO} (h : MOk K M P H) (e : M[k]? = some (a, m)) : P a = none ∧ MHas K P H a m := h.at_ a m (List.mem_of_getElem? e)
end
end Dt
set_option Elab.async false
set_option linter.all false
set_option maxRecDepth 100000
set_option maxHeartbeats 2000000
namespace Dt
open PySem PySem.Spec PyProof.Rows L2
def wpT (X : Cx) (e : Expr) : TE := fun σ H Q => ∀ pins s, Inv X pins σ H s → wpAny (model X.prog X.w) X.A (eval e X.env) (EP X pins σ Q) X.xe s
def wpA (X : Cx) (es : List Expr) : TA := fun σ H Q => ∀ pos pins s, Inv X pins σ H s → wpAny (model X.prog X.w) X.A (spliced (backTo pos (starEach es X.env))) (AP X pins σ Q) X.xe s
def wpB (X : Cx) (e : Expr) : TT := fun σ H Q => ∀ pins s, Inv X pins σ H s → wpAny (model X.prog X.w) X.A (isTrue e X.env (eval e X.env)) (TP X pins σ Q) X.xe s
def wpW (X : Cx) (e : Expr) : TT := fun σ H Q => ∀ whole pins s, Inv X pins σ H s → wpAny (model X.prog X.w) X.A (isTrue e X.env whole) (TP X pins σ Q) X.xe s
def wpS (X : Cx) (st : Stmt) : TS := fun D σ H => ∀ pins s, Inv X pins σ H s → wpAny (model X.prog X.w) X.A (exec st X.env) (SP X pins D) X.xe s
def wpSs (X : Cx) (sts : List Stmt) : TS := fun D σ H => ∀ pins s, Inv X pins σ H s → wpAny (model X.prog X.w) X.A (execs sts X.env) (SP X pins D) X.xe s
def opT (X : Cx) (f : Value → Value → Sem Value) : R2 := fun x y H Q => ∀ pins σ s v u, Inv X pins σ H s → RelV x v → RelV y u → wpAny (model X.prog X.w) X.A (f v u) (EP X pins σ Q) X.xe s
def unT (X : Cx) (f : Value → Sem Value) : V → Hp → VK → Prop := fun x H Q => ∀ pins σ s v, Inv X pins σ H s → RelV x v → wpAny (model X.prog X.w) X.A (f v) (EP X pins σ Q) X.xe s
def caT (X : Cx) (f : Value) : List V → Hp → VK → Prop := fun xs H Q => ∀ pins σ s us, Inv X pins σ H s → Vals xs us → wpAny (model X.prog X.w) X.A (call f us) (EP X pins σ Q) X.xe s
def trT (X : Cx) : V → Hp → (Bool → Hp → Prop) → Prop := fun x H Q => ∀ pins σ s v, Inv X pins σ H s → RelV x v → wpAny (model X.prog X.w) X.A (truthy v) (TP X pins σ Q) X.xe s
section
variable {X : Cx} {e : Expr} {es : List Expr} {st : Stmt} {sts : List Stmt} {σ : L2.St} {H : Hp}
theorem opT_of {f : Value → Value → Sem Value} {r : R2} (h : OpR X f r) {x y : V} {Q : VK} (q : r x y H Q) : opT X f x y H Q := fun pins σ s v u I rx ry => h pins s σ H x y v u Q I rx ry q
theorem caT_of {f : Value} {r : List V → Hp → VK → Prop} (h : CallR X f r) {xs : List V} {Q : VK} (q : r xs H Q) : caT X f xs H Q := fun pins σ s us I rx => h pins s σ H xs us Q I rx q
theorem trT_of {r : V → Hp → (Bool → Hp → Prop) → Prop} (h : TruR X r) {x : V} {Q : Bool → Hp → Prop} (q : r x H Q) : trT X x H Q := fun pins σ s v I rx => h pins s σ H x v Q I rx q
theorem wpT.mono {Q Q' : VK} (h : wpT X e σ H Q) (q : ∀ v H', Q v H' → Q' v H') : wpT X e σ H Q' := fun pins s I => thn (h pins s I) fun _ _ ⟨v, H', a, b, c⟩ => ⟨v, H', a, b, q _ _ c⟩
theorem wpA.mono {Q Q' : List V → Hp → Prop} (h : wpA X es σ H Q) (q : ∀ v H', Q v H' → Q' v H') : wpA X es σ H Q' := fun pos pins s I => thn (h pos pins s I) fun _ _ ⟨v, H', a, b, c⟩ => ⟨v, H', a, b, q _ _ c⟩
theorem wpB.mono {Q Q' : Bool → Hp → Prop} (h : wpB X e σ H Q) (q : ∀ v H', Q v H' → Q' v H') : wpB X e σ H Q' := fun pins s I => thn (h pins s I) fun _ _ ⟨H', a, c⟩ => ⟨H', a, q _ _ c⟩
theorem wpW.mono {Q Q' : Bool → Hp → Prop} (h : wpW X e σ H Q) (q : ∀ v H', Q v H' → Q' v H') : wpW X e σ H Q' := fun wh pins s I => thn (h wh pins s I) fun _ _ ⟨H', a, c⟩ => ⟨H', a, q _ _ c⟩
theorem opT.mono {f : Value → Value → Sem Value} {x y : V} {Q Q' : VK} (h : opT X f x y H Q) (q : ∀ v H', Q v H' → Q' v H') : opT X f x y H Q' := fun pins σ s v u I a b => thn (h pins σ s v u I a b) fun _ _ ⟨v, H', a, b, c⟩ => ⟨v, H', a, b, q _ _ c⟩
theorem unT.mono {f : Value → Sem Value} {x : V} {Q Q' : VK} (h : unT X f x H Q) (q : ∀ v H', Q v H' → Q' v H') : unT X f x H Q' := fun pins σ s v I a => thn (h pins σ s v I a) fun _ _ ⟨v, H', a, b, c⟩ => ⟨v, H', a, b, q _ _ c⟩
theorem caT.mono {f : Value} {xs : List V} {Q Q' : VK} (h : caT X f xs H Q) (q : ∀ v H', Q v H' → Q' v H') : caT X f xs H Q' := fun pins σ s us I a => thn (h pins σ s us I a) fun _ _ ⟨v, H', a, b, c⟩ => ⟨v, H', a, b, q _ _ c⟩
theorem trT.mono {x : V} {Q Q' : Bool → Hp → Prop} (h : trT X x H Q) (q : ∀ v H', Q v H' → Q' v H') : trT X x H Q' := fun pins σ s v I a => thn (h pins σ s v I a) fun _ _ ⟨H', a, c⟩ => ⟨H', a, q _ _ c⟩
/-- what is wanted behind a statement, weakened -/
structure EndsLe (D D' : Ends) : Prop where
  nx : ∀ σ H, D.nx σ H → D'.nx σ H
  rt : ∀ v H, D.rt v H → D'.rt v H
  bk : ∀ σ H, D.bk σ H → D'.bk σ H
  ct : ∀ σ H, D.ct σ H → D'.ct σ H
theorem SP.le {X : Cx} {pins : List (Addr × Obj)} {D D' : Ends} (l : EndsLe D D') {f : Flow} {s : Shared} (h : SP X pins D f s) : SP X pins D' f s := by
  cases f with
  | next => obtain ⟨σ, H, I, q⟩ := h; exact ⟨σ, H, I, l.nx _ _ q⟩
  | brk => obtain ⟨σ, H, I, q⟩ := h; exact ⟨σ, H, I, l.bk _ _ q⟩
  | cont => obtain ⟨σ, H, I, q⟩ := h; exact ⟨σ, H, I, l.ct _ _ q⟩
  | ret u => obtain ⟨v, σ, H, I, r, q⟩ := h; exact ⟨v, σ, H, I, r, l.rt _ _ q⟩
theorem wpS.mono {D D' : Ends} (h : wpS X st D σ H) (l : EndsLe D D') : wpS X st D' σ H := fun pins s I => thn (h pins s I) fun _ _ q => SP.le l q
theorem wpSs.mono {D D' : Ends} (h : wpSs X sts D σ H) (l : EndsLe D D') : wpSs X sts D' σ H := fun pins s I => thn (h pins s I) fun _ _ q => SP.le l q
end
abbrev VP := D → Mem → Prop
def Fin (K : PySem.W.Frag) (P : Hp) (Φ : VP) : VK := fun v H2 => ∃ d M' P2, Φ d M' ∧ Ex P P2 ∧ MOk K M' P2 H2 ∧ IsD K P2 v d
def FinB (K : PySem.W.Frag) (P : Hp) (Φ : Bool → Mem → Prop) : Bool → Hp → Prop := fun b H2 => ∃ M' P2, Φ b M' ∧ Ex P P2 ∧ MOk K M' P2 H2
def FinS (K : PySem.W.Frag) (P : Hp) (Φ : Sl → Mem → Prop) : L2.St → Hp → Prop := fun σ H2 => ∃ Γ' M' P2, Φ Γ' M' ∧ Ex P P2 ∧ SOk K Γ' P2 σ ∧ MOk K M' P2 H2
structure Po where
  nx : Sl → Mem → Prop
  rt : VP
  bk : Sl → Mem → Prop := fun _ _ => False
  ct : Sl → Mem → Prop := fun _ _ => False
def Po.ends (K : PySem.W.Frag) (P : Hp) (Ψ : Po) : Ends := { nx := FinS K P Ψ.nx, rt := Fin K P Ψ.rt, bk := FinS K P Ψ.bk, ct := FinS K P Ψ.ct }
section
variable {K : PySem.W.Frag} {P P' : Hp}
theorem Fin.imp {Φ Φ' : VP} {v : V} {H : Hp} (e : ∀ d M, Φ d M → Φ' d M) (h : Fin K P Φ v H) : Fin K P Φ' v H := let ⟨d, M, P2, a, b⟩ := h; ⟨d, M, P2, e _ _ a, b⟩
theorem FinS.imp {Φ Φ' : Sl → Mem → Prop} {σ : L2.St} {H : Hp} (e : ∀ d M, Φ d M → Φ' d M) (h : FinS K P Φ σ H) : FinS K P Φ' σ H := let ⟨d, M, P2, a, b⟩ := h; ⟨d, M, P2, e _ _ a, b⟩
theorem Fin.one {Φ : VP} {v : V} {H : Hp} {d : D} {M : Mem} (h : Φ d M) (m : MOk K M P H) (i : IsD K P v d) : Fin K P Φ v H := ⟨d, M, P, h, Same.refl P, m, i⟩
end
def WE (X : Cx) (Γ : Sl) (M : Mem) (e : Expr) (Φ : VP) : Prop := ∀ P σ H, SOk X.K Γ P σ → MOk X.K M P H → wpT X e σ H (Fin X.K P Φ)
def WT (X : Cx) (Γ : Sl) (M : Mem) (e : Expr) (Φ : Bool → Mem → Prop) : Prop := ∀ P σ H, SOk X.K Γ P σ → MOk X.K M P H → wpB X e σ H (FinB X.K P Φ)
def W1 (X : Cx) (Γ : Sl) (M : Mem) (st : Stmt) (Ψ : Po) : Prop := ∀ P σ H, SOk X.K Γ P σ → MOk X.K M P H → wpS X st (Ψ.ends X.K P) σ H
def WS (X : Cx) (Γ : Sl) (M : Mem) (sts : List Stmt) (Ψ : Po) : Prop := ∀ P σ H, SOk X.K Γ P σ → MOk X.K M P H → wpSs X sts (Ψ.ends X.K P) σ H
/-- operations on data -/
def OpD (X : Cx) (f : Value → Value → Sem Value) (x y : D) (M : Mem) (Φ : VP) : Prop := ∀ P H a b, MOk X.K M P H → IsD X.K P a x → IsD X.K P b y → opT X f a b H (Fin X.K P Φ)
def CaD (X : Cx) (f : Value) (xs : List D) (M : Mem) (Φ : VP) : Prop := ∀ P H as, MOk X.K M P H → IsDs X.K P as xs → caT X f as H (Fin X.K P Φ)
def TrD (X : Cx) (x : D) (M : Mem) (Φ : Bool → Mem → Prop) : Prop := ∀ P H a, MOk X.K M P H → IsD X.K P a x → trT X a H (FinB X.K P Φ)
section
variable {X : Cx} {Γ : Sl} {M : Mem} {Φ Φ' : VP} {Ψ : Po} {e a b c o : Expr} {es rest : List Expr} {pos p pos' : Pos} {st : Stmt} {sts : List Stmt} {B B' : Bool → Mem → Prop}
theorem WE.mono (h : WE X Γ M e Φ) (q : ∀ d M', Φ d M' → Φ' d M') : WE X Γ M e Φ' := fun P σ H s m => (h P σ H s m).mono fun _ _ z => z.imp q
theorem WT.mono (h : WT X Γ M e B) (q : ∀ d M', B d M' → B' d M') : WT X Γ M e B' := fun P σ H s m => (h P σ H s m).mono fun _ _ ⟨M', P2, a, b⟩ => ⟨M', P2, q _ _ a, b⟩
end
end Dt
set_option Elab.async false
set_option linter.all false
set_option maxRecDepth 100000
set_option maxHeartbeats 2000000
namespace Dt
open PySem PySem.Spec PyProof.Rows L2
abbrev DS := List D → Mem → VP → Prop
def spOf (K : PySem.W.Frag) (S : DS) : Sp := fun vs H Q _ => ∃ P M ds Φ, IsDs K P vs ds ∧ MOk K M P H ∧ S ds M Φ ∧ ∀ v H', Fin K P Φ v H' → Q v H'
/-- a def that the module's name x stands for -/
def HasFn (P : Program) (w : World) (K : PySem.W.Frag) (mg : Str → Option Value) (base : Heap) (k : Nat) (x : Str) (S : DS) : Prop :=
  ∃ f fd ps, FnOk P w K mg base CX0 k f fd ps (spOf K S) ∧ mg x = some (.ref f) ∧ PySem.W.keepIn K (.ref f) = true ∧ Binds K fd ps []
/-- a method m of the class at C -/
def HasMe (P : Program) (w : World) (K : PySem.W.Frag) (mg : Str → Option Value) (base : Heap) (k : Nat) (C : Addr) (m : Str) (S : DS) : Prop :=
  ∃ f fd ps, FnOk P w K mg base CX0 k f fd ps (spOf K S) ∧ Meth K C m f ∧ Binds K fd ps []
/-- the class at C, of the name x, made by its __init__ -/
def HasMk (P : Program) (w : World) (K : PySem.W.Frag) (mg : Str → Option Value) (base : Heap) (k : Nat) (C : Addr) (x : Str) (S : DS) : Prop :=
  ∃ f fd ps, FnOk P w K mg base CX0 k f fd ps (spOf K S) ∧ Mk K C f ∧ mg x = some (.ref C) ∧ Binds K fd ps []
section
variable {X : Cx} {Γ : Sl} {M : Mem} {Φ : VP} {Ψ : Po} {e a b c o : Expr} {es : List Expr} {pos p pos' apos : Pos} {k : Nat} {x f : Str} {S : DS}
/-- an object of the class at C with these attributes, one's own (in M) or not -/
def ObjD (M : Mem) (d : D) (C : Addr) (fs : List (Str × D)) : Prop := d = .obj C fs ∨ ∃ (j : Nat) (l : Addr), d = .adr l ∧ M[j]? = some (l, .ins C fs)
theorem ObjD.at_ {K : PySem.W.Frag} {P H : Hp} {d : D} {C : Addr} {fs : List (Str × D)} {v : V} (h : ObjD M d C fs) (m : MOk K M P H) (i : IsD K P v d) : ∃ a dx xs, v = .ref a ∧ H a = some (.ins C dx xs) ∧ IsFs K P xs fs := by
  rcases h with rfl | ⟨j, l, rfl, hl⟩
  · cases i with
    | obj h hl hi => exact ⟨_, _, _, rfl, m.ex _ _ h, hl, hi⟩
  · cases i
    obtain ⟨_, dx, xs, h1, h2⟩ := m.get hl
    exact ⟨_, dx, xs, rfl, h1, h2⟩
end
section
variable {X : Cx} {M : Mem} {Φ : VP} {i j : Int}
theorem od_int0 {f : Value → Value → Sem Value} {g : Int → Int → V} {d : D} (h : OpR X f (rI0 g)) (hg : ∀ P, IsD X.K P (g i j) d) (q : Φ d M) : OpD X f (.int i) (.int j) M Φ := fun P H a b m ia ib => by
  cases ia
  cases ib
  exact opT_of h ⟨i, j, rfl, rfl, .one q m (hg P)⟩
theorem od_add (q : Φ (.int (i + j)) M) : OpD X (binaryOp .Add) (.int i) (.int j) M Φ := od_int0 op_add (fun _ => .int) q
theorem od_sub (q : Φ (.int (i - j)) M) : OpD X (binaryOp .Sub) (.int i) (.int j) M Φ := od_int0 op_sub (fun _ => .int) q
theorem od_lt (q : Φ (.bl (decide (i < j))) M) : OpD X (compareOp .Lt) (.int i) (.int j) M Φ := od_int0 op_lt (fun _ => .bl) q
theorem od_le (q : Φ (.bl (decide (i ≤ j))) M) : OpD X (compareOp .LtE) (.int i) (.int j) M Φ := od_int0 op_le (fun _ => .bl) q
theorem od_gt (q : Φ (.bl (decide (j < i))) M) : OpD X (compareOp .Gt) (.int i) (.int j) M Φ := od_int0 op_gt (fun _ => .bl) q
theorem od_ge (q : Φ (.bl (decide (j ≤ i))) M) : OpD X (compareOp .GtE) (.int i) (.int j) M Φ := od_int0 op_ge (fun _ => .bl) q
theorem od_eq (q : Φ (.bl (decide (i = j))) M) : OpD X (compareOp .Eq) (.int i) (.int j) M Φ := fun P H a b m ia ib => by
  cases ia
  cases ib
  have e : decide (V.int i = V.int j) = decide (i = j) := decide_eq_decide.mpr ⟨V.int.inj, fun z => by rw [z]⟩
  exact opT_of op_eq ⟨rfl, .one (by rw [← e] at q; exact q) m .bl⟩
theorem od_ne (q : Φ (.bl (!decide (i = j))) M) : OpD X (compareOp .NotEq) (.int i) (.int j) M Φ := fun P H a b m ia ib => by
  cases ia
  cases ib
  have e : decide (V.int i = V.int j) = decide (i = j) := decide_eq_decide.mpr ⟨V.int.inj, fun z => by rw [z]⟩
  exact opT_of op_ne ⟨rfl, .one (by rw [← e] at q; exact q) m .bl⟩
theorem od_eqS {x y : Str} (q : Φ (.bl (decide (x = y))) M) : OpD X (compareOp .Eq) (.str x) (.str y) M Φ := fun P H a b m ia ib => by
  cases ia
  cases ib
  have e : decide (V.str x = V.str y) = decide (x = y) := decide_eq_decide.mpr ⟨V.str.inj, fun z => by rw [z]⟩
  exact opT_of op_eq ⟨rfl, .one (by rw [← e] at q; exact q) m .bl⟩
theorem od_neS {x y : Str} (q : Φ (.bl (!decide (x = y))) M) : OpD X (compareOp .NotEq) (.str x) (.str y) M Φ := fun P H a b m ia ib => by
  cases ia
  cases ib
  have e : decide (V.str x = V.str y) = decide (x = y) := decide_eq_decide.mpr ⟨V.str.inj, fun z => by rw [z]⟩
  exact opT_of op_ne ⟨rfl, .one (by rw [← e] at q; exact q) m .bl⟩
/-- truth values -/
theorem od_eqB {x y : Bool} (q : Φ (.bl (decide (x = y))) M) : OpD X (compareOp .Eq) (.bl x) (.bl y) M Φ := fun P H a b m ia ib => by
  cases ia
  cases ib
  have e : decide (V.bl x = V.bl y) = decide (x = y) := decide_eq_decide.mpr ⟨V.bl.inj, fun z => by rw [z]⟩
  exact opT_of op_eq ⟨rfl, .one (by rw [← e] at q; exact q) m .bl⟩
theorem od_neB {x y : Bool} (q : Φ (.bl (!decide (x = y))) M) : OpD X (compareOp .NotEq) (.bl x) (.bl y) M Φ := fun P H a b m ia ib => by
  cases ia
  cases ib
  have e : decide (V.bl x = V.bl y) = decide (x = y) := decide_eq_decide.mpr ⟨V.bl.inj, fun z => by rw [z]⟩
  exact opT_of op_ne ⟨rfl, .one (by rw [← e] at q; exact q) m .bl⟩
def isNon : D → Bool
  | .non => true
  | _ => false
theorem isNon_v {K : PySem.W.Frag} {P : Hp} {v : V} {d : D} (h : IsD K P v d) : decide (v = .non) = isNon d := by
  cases h <;> rfl
theorem od_is {x : D} (q : Φ (.bl (isNon x)) M) : OpD X (compareOp .Is) x .non M Φ := fun P H a b m ia ib => by
  cases ib
  exact opT_of op_isN ⟨rfl, .one (by rw [isNon_v ia]; exact q) m .bl⟩
theorem od_isn {x : D} (q : Φ (.bl (!isNon x)) M) : OpD X (compareOp .IsNot) x .non M Φ := fun P H a b m ia ib => by
  cases ib
  exact opT_of op_notN ⟨rfl, .one (by rw [isNon_v ia]; exact q) m .bl⟩
end
section
variable {X : Cx} {M : Mem} {B : Bool → Mem → Prop}
theorem tr_of {d : D} {k : Bool} (h : ∀ P H v, MOk X.K M P H → IsD X.K P v d → TruV X.K v H k) (q : B k M) : TrD X d M B := fun P H a m ia =>
  trT_of tru_ok ⟨k, h P H a m ia, M, P, q, Same.refl P, m⟩
theorem tr_bl {b : Bool} (q : B b M) : TrD X (.bl b) M B := tr_of (fun P H v m i => by cases i; exact rfl) q
theorem tr_non (q : B false M) : TrD X .non M B := tr_of (fun P H v m i => by cases i; exact rfl) q
theorem tr_int {i : Int} (q : B (i != 0) M) : TrD X (.int i) M B := tr_of (fun P H v m i => by cases i; exact rfl) q
theorem isE {K : PySem.W.Frag} {P : Hp} {xs : List V} {ds : List D} (h : xs.length = ds.length) : (!ds.isEmpty) = !xs.isEmpty := by
  cases xs with
  | nil => cases ds with
    | nil => rfl
    | cons d r => simp at h
  | cons x r => cases ds with
    | nil => simp at h
    | cons d r => rfl
theorem tr_lst {ds : List D} (q : B (!ds.isEmpty) M) : TrD X (.lst ds) M B := tr_of (fun P H v m i => by
  cases i with
  | lst h hl hi => exact .inl ⟨_, m.ex.seq h, isE (K := X.K) (P := P) hl⟩) q
theorem tr_tup {ds : List D} (q : B (!ds.isEmpty) M) : TrD X (.tup ds) M B := tr_of (fun P H v m i => by
  cases i with
  | tup h hl hi => exact .inr (.inl ⟨_, Same.tupS m.ex h, isE (K := X.K) (P := P) hl⟩)) q
end
def IxD (X : Cx) (x y : D) (M : Mem) (Φ : VP) : Prop := ∀ P H a b, MOk X.K M P H → IsD X.K P a x → IsD X.K P b y → rIx X.K a b H (Fin X.K P Φ)
section
variable {X : Cx} {Γ : Sl} {M : Mem} {Φ : VP} {a b : Expr} {pos : Pos}
theorem atI_rel {K : PySem.W.Frag} {P : Hp} {xs : List V} {ds : List D} {i : Int} {d : D} (hl : xs.length = ds.length) (hi : ∀ (i : Nat) x d, xs[i]? = some x → ds[i]? = some d → IsD K P x d) (h : atI ds i = some d) : ∃ v, atI xs i = some v ∧ IsD K P v d := by
  unfold atI at h ⊢
  rw [hl]
  cases e : ixN ds.length i with
  | none => rw [e] at h; cases h
  | some j =>
    rw [e] at h
    have h' : ds[j]? = some d := h
    have hj : j < xs.length := by rw [hl]; exact (List.getElem?_eq_some_iff.mp h').1
    exact ⟨xs[j], List.getElem?_eq_getElem hj, hi j _ d (List.getElem?_eq_getElem hj) h'⟩
theorem ix_tupI {ds : List D} {i : Int} {d : D} (h : atI ds i = some d) (q : Φ d M) : IxD X (.tup ds) (.int i) M Φ := fun P H v u m iv iu => by
  cases iu
  cases iv with
  | tup hs hl hi =>
    obtain ⟨w, h1, h2⟩ := atI_rel hl hi h
    exact .inr (.inl ⟨_, _, i, w, rfl, rfl, Same.tupS m.ex hs, h1, .one q m h2⟩)
theorem ix_lstI {ds : List D} {i : Int} {d : D} (h : atI ds i = some d) (q : Φ d M) : IxD X (.lst ds) (.int i) M Φ := fun P H v u m iv iu => by
  cases iu
  cases iv with
  | lst hs hl hi =>
    obtain ⟨w, h1, h2⟩ := atI_rel hl hi h
    exact .inl ⟨_, _, i, w, rfl, rfl, m.ex.seq hs, h1, .one q m h2⟩
theorem ix_tup {ds : List D} {j : Nat} {i : Int} {d : D} (hj : i = (j : Int)) (h : ds[j]? = some d) (q : Φ d M) : IxD X (.tup ds) (.int i) M Φ := ix_tupI (by rw [hj]; exact atI_nat h) q
theorem ix_lst {ds : List D} {j : Nat} {i : Int} {d : D} (hj : i = (j : Int)) (h : ds[j]? = some d) (q : Φ d M) : IxD X (.lst ds) (.int i) M Φ := ix_lstI (by rw [hj]; exact atI_nat h) q
theorem ix_ownI {ds : List D} {k : Nat} {l : Addr} {i : Int} {d : D} (hk : M[k]? = some (l, .lst ds)) (h : atI ds i = some d) (q : Φ d M) : IxD X (.adr l) (.int i) M Φ := fun P H v u m iv iu => by
  cases iu
  cases iv
  obtain ⟨_, xs, h1, h2⟩ := m.get hk
  obtain ⟨w, h3, h4⟩ := atI_rel h2.1 h2.2 h
  exact .inl ⟨_, xs, i, w, rfl, rfl, SqL.of h1, h3, .one q m h4⟩
theorem ix_own {ds : List D} {k j : Nat} {l : Addr} {i : Int} {d : D} (hk : M[k]? = some (l, .lst ds)) (hj : i = (j : Int)) (h : ds[j]? = some d) (q : Φ d M) : IxD X (.adr l) (.int i) M Φ := ix_ownI hk (by rw [hj]; exact atI_nat h) q
end
end Dt
set_option Elab.async false
set_option linter.all false
set_option maxRecDepth 100000
set_option maxHeartbeats 2000000
namespace Dt
open PySem PySem.Spec PyProof.Rows L2
section
variable {X : Cx} {Γ : Sl} {M : Mem} {Φ : VP} {Ψ : Po} {e : Expr} {es : List Expr} {pos p pos' : Pos} {B : Bool → Mem → Prop}
theorem W1.mono {st : Stmt} {Ψ Ψ' : Po} (h : W1 X Γ M st Ψ) (a : ∀ Γ' M', Ψ.nx Γ' M' → Ψ'.nx Γ' M') (b : ∀ d M', Ψ.rt d M' → Ψ'.rt d M') (c : ∀ Γ' M', Ψ.bk Γ' M' → Ψ'.bk Γ' M') (d : ∀ Γ' M', Ψ.ct Γ' M' → Ψ'.ct Γ' M') : W1 X Γ M st Ψ' := fun P σ H s m =>
  (h P σ H s m).mono ⟨fun _ _ z => z.imp a, fun _ _ z => z.imp b, fun _ _ z => z.imp c, fun _ _ z => z.imp d⟩
theorem WS.mono {sts : List Stmt} {Ψ Ψ' : Po} (h : WS X Γ M sts Ψ) (a : ∀ Γ' M', Ψ.nx Γ' M' → Ψ'.nx Γ' M') (b : ∀ d M', Ψ.rt d M' → Ψ'.rt d M') (c : ∀ Γ' M', Ψ.bk Γ' M' → Ψ'.bk Γ' M') (d : ∀ Γ' M', Ψ.ct Γ' M' → Ψ'.ct Γ' M') : WS X Γ M sts Ψ' := fun P σ H s m =>
  (h P σ H s m).mono ⟨fun _ _ z => z.imp a, fun _ _ z => z.imp b, fun _ _ z => z.imp c, fun _ _ z => z.imp d⟩
end
def wpG (X : Cx) (tg : Expr) : TG := fun v σ H Q => ∀ pins s u, Inv X pins σ H s → RelV v u → wpAny (model X.prog X.w) X.A (assign tg X.env u) (fun _ s' => ∃ σ' H', Inv X pins σ' H' s' ∧ Q σ' H') X.xe s
def wpGs (X : Cx) (ts : List Expr) : TGs := fun vs σ H Q => ∀ pins s us, Inv X pins σ H s → Vals vs us → wpAny (model X.prog X.w) X.A (assignInOrder ((assignEach ts X.env).map (·.2)) us) (fun _ s' => ∃ σ' H', Inv X pins σ' H' s' ∧ Q σ' H') X.xe s
section
variable {X : Cx} {tg : Expr} {ts : List Expr} {σ : L2.St} {H : Hp} {pos : Pos}
theorem wpG.mono {v : V} {Q Q' : L2.St → Hp → Prop} (h : wpG X tg v σ H Q) (q : ∀ σ H, Q σ H → Q' σ H) : wpG X tg v σ H Q' := fun pins s u I r => thn (h pins s u I r) fun _ _ ⟨σ', H', a, b⟩ => ⟨σ', H', a, q _ _ b⟩
theorem wpGs.mono {v : List V} {Q Q' : L2.St → Hp → Prop} (h : wpGs X ts v σ H Q) (q : ∀ σ H, Q σ H → Q' σ H) : wpGs X ts v σ H Q' := fun pins s u I r => thn (h pins s u I r) fun _ _ ⟨σ', H', a, b⟩ => ⟨σ', H', a, q _ _ b⟩
end
end Dt
set_option Elab.async false
set_option linter.all false
set_option maxRecDepth 100000
set_option maxHeartbeats 2000000
namespace Dt
open PySem PySem.Spec PyProof.Rows L2
section
variable {X : Cx} {Γ : Sl} {M : Mem} {Φ : VP} {Ψ : Po} {e o a b : Expr} {es : List Expr} {pos p apos : Pos}
theorem cd_of {f : Value} {xs : List D} {r : List V → Hp → VK → Prop} (hr : CallR X f r) (h : ∀ P H vs, MOk X.K M P H → IsDs X.K P vs xs → r vs H (Fin X.K P Φ)) : CaD X f xs M Φ := fun P H vs m i => caT_of hr (h P H vs m i)
theorem IsDs.un1 {K : PySem.W.Frag} {P : Hp} {vs : List V} {d : D} (h : IsDs K P vs [d]) : ∃ v, vs = [v] ∧ IsD K P v d := by
  obtain ⟨v, r, rfl, hv, hr⟩ := h.uncons
  obtain rfl := hr.unnil
  exact ⟨v, rfl, hv⟩
theorem IsDs.un2 {K : PySem.W.Frag} {P : Hp} {vs : List V} {d d2 : D} (h : IsDs K P vs [d, d2]) : ∃ v v2, vs = [v, v2] ∧ IsD K P v d ∧ IsD K P v2 d2 := by
  obtain ⟨v, r, rfl, hv, hr⟩ := h.uncons
  obtain ⟨v2, rfl, hv2⟩ := hr.un1
  exact ⟨v, v2, rfl, hv, hv2⟩
/-- list(xs): a list of one's own -/
theorem cd_list {ds : List D} {d : D} (hd : d = .lst ds ∨ d = .tup ds ∨ ∃ (k : Nat) (l : Addr), d = .adr l ∧ M[k]? = some (l, .lst ds)) (q : ∀ l, Φ (.adr l) ((l, .lst ds) :: M)) : CaD X (.type "list") [d] M Φ := cd_of call_list_of fun P H vs m h => by
  obtain ⟨v, rfl, hv⟩ := h.un1
  rcases hd with rfl | rfl | ⟨k, l, rfl, hk⟩
  · cases hv with
    | lst hs hl hi => exact ⟨_, _, rfl, .inl (m.ex.seq hs), fun l hn => ⟨_, _, P, q l, Same.refl P, m.own hn ⟨_, upd_same, hl, hi⟩, .adr⟩⟩
  · cases hv with
    | tup hs hl hi => exact ⟨_, _, rfl, .inr (Same.tupS m.ex hs), fun l hn => ⟨_, _, P, q l, Same.refl P, m.own hn ⟨_, upd_same, hl, hi⟩, .adr⟩⟩
  · cases hv
    obtain ⟨_, xs, h1, h2⟩ := m.get hk
    exact ⟨_, _, rfl, .inl (SqL.of h1), fun l' hn => ⟨_, _, P, q l', Same.refl P, m.own hn ⟨_, upd_same, h2⟩, .adr⟩⟩
/-- what the type of a piece of data is -/
def tyD : D → Option String
  | .non => some "NoneType"
  | .bl _ => some "bool"
  | .int _ => some "int"
  | .str _ => some "str"
  | .tup _ => some "tuple"
  | .lst _ => some "list"
  | _ => none
theorem tyX_of {K : PySem.W.Frag} {P H : Hp} {v : V} {d : D} {t : String} (m : MOk K M P H) (i : IsD K P v d) (h : tyD d = some t) : TyX K H v (.type t) := by
  cases i with
  | non => cases h; exact .base .non
  | bl => cases h; exact .base (.bl _)
  | int => cases h; exact .base (.int _)
  | str => cases h; exact .base (.str _)
  | ty => cases h
  | tup hs hl hi =>
    cases h
    rcases hs with (h | ⟨ob, h⟩) | ⟨ob, its, n, h, hc, _⟩
    · exact .base (.tup (m.ex _ _ h))
    · exact .fTuple (m.ex _ _ h)
    · exact .kTuple h hc
  | lst hs hl hi =>
    cases h
    rcases hs with (h | ⟨ob, h⟩) | ⟨ob, its, n, h, hc, _⟩
    · exact .base (.lst (m.ex _ _ h))
    · exact .base (.frz (m.ex _ _ h))
    · exact .kList h hc
  | obj h hl hi => cases h
  | adr => cases h
  | dic h hl hi => cases h
  | exc h hl hi => cases h
  | exv h0 h hl hi => cases h
  | exn h0 => cases h
  | dcs h => cases h
theorem cd_isi {d : D} {t n : String} {k : Bool} (ht : tyD d = some t) (hk : kitB t n = some k) (q : Φ (.bl k) M) : CaD X (.builtin "isinstance") [d, .ty n] M Φ := cd_of call_isi fun P H vs m h => by
  obtain ⟨v, v2, rfl, hv, hv2⟩ := h.un2
  cases hv2
  exact ⟨v, .ty n, _, _, k, rfl, .ty n, tyX_of m hv ht, kit_ty hk, .one q m .bl⟩
end
end Dt
set_option Elab.async false
set_option linter.all false
set_option maxRecDepth 100000
set_option maxHeartbeats 2000000
namespace Dt
open PySem PySem.Spec PyProof.Rows L2
abbrev Fg := PySem.W.Frag
/-- one def: how its function object is found, its parts -/
structure Df where
  loc : Fg → Addr
  nm : Str
  qu : Str
  pa : Arguments
  bo : List Stmt
  sc : Scope
  dv : List He.Dv := []
  kv : List (Str × He.Dv) := []
def seeF (K : Fg) (a : Addr) : He.FnW := (K.lookup a).bind fun o => match o.data with
  | .func g => some (g.name, g.qualname, g.params, g.body, g.scope, g.globals, g.closure, g.builtins)
  | _ => none
def Df.told (d : Df) : He.FnW := some (d.nm, d.qu, d.pa, .stmts d.bo, d.sc, mainGlobals, [], builtinsNs)
def Df.ds (K : Fg) (d : Df) : List V := d.dv.map fun z => z.v K
def Df.ks (K : Fg) (d : Df) : List (Str × V) := d.kv.map fun z => (z.1, z.2.v K)
def Df.good (K : Fg) (d : Df) : Bool := (K.lookup (d.loc K)).any fun o => match o.data with
  | .func g => PySem.W.keepIn K (.ref (d.loc K)) && PySem.W.codeIn K g.code d.qu && He.dflB K g.defaults (d.ds K) && He.kwdB K g.kwdefaults (d.ks K)
  | _ => false
theorem Df.fun_ {K : Fg} {d : Df} (h1 : seeF K (d.loc K) = d.told) (h2 : d.good K = true) : ∃ fd, FunD K d.nm d.qu d.pa d.bo d.sc (d.ds K) (d.ks K) (d.loc K) fd := by
  unfold seeF at h1
  unfold Df.good at h2
  generalize hl : K.lookup (d.loc K) = lo at h1 h2
  cases lo with
  | none => cases h2
  | some ob =>
    obtain ⟨c0, d0, dat, sl0⟩ := ob
    cases dat with
    | func g =>
      obtain ⟨g1, g2, g3, g4, g5, g6, g7, g8, g9, g10, g11, g12, g13, g14, g15⟩ := g
      have z : (some (g1, g2, g3, g4, g5, g6, g7, g15) : He.FnW) = d.told := h1
      simp only [Df.told, Option.some.injEq, Prod.mk.injEq] at z
      obtain ⟨r1, r2, r3, r4, r5, r6, r7, r8⟩ := z
      have y : (PySem.W.keepIn K (.ref (d.loc K)) && PySem.W.codeIn K g13 d.qu && He.dflB K g8 (d.ds K) && He.kwdB K g9 (d.ks K)) = true := h2
      simp only [Bool.and_eq_true] at y
      obtain ⟨⟨⟨y1, y2⟩, y3⟩, y4⟩ := y
      subst r1 r2 r3 r4 r5 r6 r7 r8
      refine ⟨_, ⟨⟨c0, d0, g8, g9, g10, g11, g12, g13, g14, sl0, rfl, hl, y2, He.dflB_ok y3, He.kwdB_ok y4⟩, y1⟩⟩
    | _ => cases h2
/-- what the head tells -/
structure Told (fa : List He.Fa) (fn : List Df) (ex : Fg → Bool) (K : Fg) : Prop where
  fact : ∀ f, f ∈ fa → f.ok K = true
  defn : ∀ d, d ∈ fn → ∃ fd, FunD K d.nm d.qu d.pa d.bo d.sc (d.ds K) (d.ks K) (d.loc K) fd
  more : ex K = true
abbrev AlP : Type := Bool × List He.FnW
def lookP (fa : List He.Fa) (fn : List Df) (ex : Fg → Bool) (K : Fg) : AlP := (fa.all (fun f => f.ok K) && fn.all (fun d => d.good K) && ex K, fn.map fun d => seeF K (d.loc K))
def wantP (fn : List Df) : AlP := (true, fn.map Df.told)
theorem told_of {fa : List He.Fa} {fn : List Df} {ex : Fg → Bool} {K : Fg} (h : lookP fa fn ex K = wantP fn) : Told fa fn ex K := by
  have h1 : (fa.all (fun f => f.ok K) && fn.all (fun d => d.good K) && ex K) = true := congrArg Prod.fst h
  have h2 : fn.map (fun d => seeF K (d.loc K)) = fn.map Df.told := congrArg Prod.snd h
  simp only [Bool.and_eq_true, List.all_eq_true] at h1
  obtain ⟨⟨a1, a2⟩, a3⟩ := h1
  exact ⟨a1, fun d hd => Df.fun_ (List.map_inj_left.mp h2 d hd) (a2 d hd), a3⟩
/-- where defs stand -/
def locG (x : Str) (K : Fg) : Addr := He.ga K x
def locM (C m : Str) (K : Fg) : Addr := He.ma K (He.ga K C) m
end Dt
set_option Elab.async false
set_option linter.all false
set_option maxRecDepth 100000
set_option maxHeartbeats 2000000
namespace Dt
open PySem PySem.Spec PyProof.Rows L2
/-- what isinstance asks of an own class -/
structure IsF (K : PySem.W.Frag) (C : Addr) : Prop where
  cls : Cls K C
  own : PySem.W.findIn K (.ref C) "__class__" = some (some (.builtin "object.__class__"))
  get : PySem.W.specialIn K (.builtin "object.__class__") "__get__" = some (some (.builtin "getset_descriptor.__get__"))
  tak : PySem.W.takesIn K (.builtin "object.__class__") = some true
  mro : PySem.W.mroIn K C (.type "object") = some true
section
variable {X : Cx} {Γ : Sl} {M : Mem} {Φ : VP} {d : D} {C C' : Addr} {fs : List (Str × D)} {b : Bool} {t n : String}
theorem IsF.ty {K : PySem.W.Frag} {P H : Hp} {v : V} (hI : IsF K C) (ho : ObjD M d C fs) (m : MOk K M P H) (i : IsD K P v d) : TyX K H v (.ref C) := by
  obtain ⟨a, dx, xs, rfl, ha, hx⟩ := ho.at_ m i
  exact .base (.ins ha hI.cls hI.own hI.get hI.tak hI.mro)
end
end Dt
set_option Elab.async false
set_option linter.all false
set_option maxRecDepth 100000
set_option maxHeartbeats 2000000
namespace Dt
open PySem PySem.Spec PyProof.Rows L2
/-- the first n from lo on -/
def rn (lo : Int) (n : Nat) : List Int := (List.range n).map fun k : Nat => lo + (k : Int)
theorem rn_len {lo : Int} {n : Nat} : (rn lo n).length = n := by
  unfold rn
  rw [List.length_map, List.length_range]
end Dt
set_option Elab.async false
set_option linter.all false
set_option maxRecDepth 100000
set_option maxHeartbeats 2000000
namespace Dt
open PySem PySem.Spec PyProof.Rows L2
section
variable {X : Cx} {Γ : Sl} {M : Mem} {Φ : VP}
theorem strs_of {K : PySem.W.Frag} {P : Hp} : ∀ {zs : List Str} {vs : List V}, IsDs K P vs (zs.map D.str) → vs = zs.map V.str
  | [], vs, h => h.unnil
  | b :: bs, vs, h => by
    obtain ⟨v, r, rfl, hv, hr⟩ := IsDs.uncons h
    cases hv
    rw [strs_of hr]
    rfl
end
end Dt
set_option Elab.async false
set_option linter.all false
set_option maxRecDepth 100000
set_option maxHeartbeats 2000000
namespace Dt
open PySem PySem.Spec PyProof.Rows L2
def Good (gs : List Int) (m : Int) : Prop := (∀ g, g ∈ gs → 0 ≤ g) ∧ gs.length ≤ 63 ∧ 0 ≤ m ∧ m < 2 ^ 31
def DealAt (M : Mem) (k : Nat) (l l2 : Addr) : Prop := ∃ gs m, Good gs m ∧ M[k]? = some (l, .lst [.adr l2, .int m]) ∧ M[k + 1]? = some (l2, .lst (gs.map D.int))
section
variable {M : Mem} {k : Nat} {l l2 : Addr} {gs gs' : List Int} {m m' : Int} {x : Addr × MO}
theorem DealAt.len (h : DealAt M k l l2) : k + 1 < M.length := by
  obtain ⟨_, _, _, _, h1⟩ := h
  exact (List.getElem?_eq_some_iff.mp h1).1
theorem Good.push {ys : List Int} {y z : Int} (h : Good (ys ++ [y]) m) (hz : 0 ≤ z) : Good (ys ++ [z]) m := by
  obtain ⟨h1, h2, h3, h4⟩ := h
  rw [List.length_append] at h2
  refine ⟨fun g hg => ?_, by rw [List.length_append]; exact h2, h3, h4⟩
  rcases List.mem_append.mp hg with a | a
  · exact h1 g (List.mem_append_left _ a)
  · rw [List.mem_singleton] at a
    omega
end
end Dt
set_option Elab.async false
set_option linter.all false
set_option maxRecDepth 100000
set_option maxHeartbeats 2000000
set_option Elab.async false
set_option linter.all false
set_option maxRecDepth 100000
set_option maxHeartbeats 4000000
set_option Elab.async false
set_option linter.all false
set_option maxRecDepth 100000
set_option maxHeartbeats 4000000
set_option Elab.async false
set_option linter.all false
set_option maxRecDepth 100000
set_option maxHeartbeats 4000000
namespace Dt
open PySem PySem.Spec PyProof.Rows L2
/-- what is told of an error: its class, its attributes, the memory -/
abbrev XP := Addr → List (Str × D) → Mem → Prop
def FinX (K : PySem.W.Frag) (P : Hp) (Ξ : XP) : XK := fun cls d H => ∃ C dd fs ds M' P2, cls = .ref C ∧ d = some dd ∧ P2 dd = some (.xd fs) ∧ IsFs K P2 fs ds ∧ Ξ C ds M' ∧ Ex P P2 ∧ MOk K M' P2 H
theorem FinX.imp {K : PySem.W.Frag} {P : Hp} {Ξ Ξ' : XP} {c : Value} {d : Option Addr} {H : Hp} (e : ∀ C ds M, Ξ C ds M → Ξ' C ds M) (h : FinX K P Ξ c d H) : FinX K P Ξ' c d H := by
  obtain ⟨C, dd, fs, ds, M', P2, a, b, c, d, f, g, i⟩ := h
  exact ⟨C, dd, fs, ds, M', P2, a, b, c, d, e _ _ _ f, g, i⟩
end Dt
set_option Elab.async false
set_option linter.all false
set_option maxRecDepth 100000
set_option maxHeartbeats 4000000
set_option Elab.async false
set_option linter.all false
set_option maxRecDepth 100000
set_option maxHeartbeats 4000000
set_option Elab.async false
set_option linter.all false
set_option maxRecDepth 100000
set_option maxHeartbeats 4000000
namespace Dt
open PySem PySem.Spec PyProof.Rows L2
def insU (k : Int) : List Int → List Int
  | [] => [k]
  | x :: r => if k < x then k :: x :: r else if k = x then x :: r else x :: insU k r
def sortU (ns : List Int) : List Int := ns.foldr insU []
theorem mem_insU {k y : Int} : ∀ l : List Int, y ∈ insU k l ↔ y = k ∨ y ∈ l
  | [] => by simp [insU]
  | x :: r => by
    unfold insU
    split
    · simp
    · split
      · rename_i h
        subst h
        simp
      · rw [List.mem_cons, mem_insU r, List.mem_cons]
        exact or_left_comm
theorem mem_sortU {y : Int} : ∀ ns : List Int, y ∈ sortU ns ↔ y ∈ ns
  | [] => by simp [sortU]
  | k :: r => by
    have ih := mem_sortU (y := y) r
    show y ∈ insU k (sortU r) ↔ _
    rw [mem_insU, ih, List.mem_cons]
theorem pw_insU {k : Int} : ∀ l : List Int, l.Pairwise (· < ·) → (insU k l).Pairwise (· < ·)
  | [], _ => by simp [insU]
  | x :: r, h => by
    obtain ⟨h1, h2⟩ := List.pairwise_cons.mp h
    unfold insU
    split
    · refine List.pairwise_cons.mpr ⟨fun y hy => ?_, h⟩
      rcases List.mem_cons.mp hy with e | e
      · omega
      · have := h1 y e
        omega
    · split
      · exact h
      · refine List.pairwise_cons.mpr ⟨fun y hy => ?_, pw_insU r h2⟩
        rcases (mem_insU r).mp hy with e | e
        · omega
        · exact h1 y e
theorem pw_sortU : ∀ ns : List Int, (sortU ns).Pairwise (· < ·)
  | [] => by simp [sortU]
  | k :: r => pw_insU _ (pw_sortU r)
theorem sortU_len : ∀ ns : List Int, (sortU ns).length ≤ ns.length
  | [] => Nat.le_refl _
  | k :: r => by
    have ih := sortU_len r
    have h2 : ∀ l : List Int, (insU k l).length ≤ l.length + 1 := by
      intro l
      induction l with
      | nil => exact Nat.le_refl _
      | cons x l ihl =>
        unfold insU
        split
        · exact Nat.le_refl _
        · split
          · exact Nat.le_succ _
          · exact Nat.succ_le_succ ihl
    exact Nat.le_trans (h2 (sortU r)) (Nat.succ_le_succ ih)
end Dt
set_option Elab.async false
set_option linter.all false
set_option maxRecDepth 100000
set_option maxHeartbeats 4000000
set_option Elab.async false
set_option linter.all false
set_option maxRecDepth 100000
set_option maxHeartbeats 4000000
set_option Elab.async false
set_option linter.all false
set_option maxRecDepth 100000
set_option maxHeartbeats 4000000
namespace Dt
open PySem PySem.Spec PyProof.Rows L2
abbrev FnX : Type := Option (Str × Str × Arguments × FuncBody × Scope × Addr × List Str × Addr)
def seeX (K : Fg) (a : Addr) : FnX := (K.lookup a).bind fun o => match o.data with
  | .func g => some (g.name, g.qualname, g.params, g.body, g.scope, g.globals, g.closure.map (·.1), g.builtins)
  | _ => none
def Df.toldX (d : Df) : FnX := some (d.nm, d.qu, d.pa, .stmts d.bo, d.sc, mainGlobals, ["__class__"], builtinsNs)
abbrev AlQ : Type := (Bool × List He.FnW) × List FnX
def lookQ (fa : List He.Fa) (fn fx : List Df) (ex : Fg → Bool) (K : Fg) : AlQ := (lookP fa fn ex K, fx.map fun d => seeX K (d.loc K))
def wantQ (fn fx : List Df) : AlQ := (wantP fn, fx.map Df.toldX)
structure ToldQ (fa : List He.Fa) (fn fx : List Df) (ex : Fg → Bool) (K : Fg) : Prop where
  told : Told fa fn ex K
  defx : ∀ d, d ∈ fx → seeX K (d.loc K) = d.toldX
theorem toldQ_of {fa : List He.Fa} {fn fx : List Df} {ex : Fg → Bool} {K : Fg} (h : lookQ fa fn fx ex K = wantQ fn fx) : ToldQ fa fn fx ex K := by
  have h1 : lookP fa fn ex K = wantP fn := congrArg Prod.fst h
  have h2 : fx.map (fun d => seeX K (d.loc K)) = fx.map Df.toldX := congrArg Prod.snd h
  exact ⟨told_of h1, fun d hd => List.map_inj_left.mp h2 d hd⟩
def hookQ (n : Nat) (fa : List He.Fa) (fn fx : List Df) (ex : Fg → Bool) : PySem.W.Hook where
  α := AlQ
  obs := fun s => lookQ fa fn fx ex (He.frG s.heap.get? (cStatics :: He.asD s.heap.get? n))
  val := fun _ => wantQ fn fx
  says := fun _ h => ∃ K : Fg, K.In h ∧ ToldQ fa fn fx ex K
  of := fun _ _ e => ⟨_, He.frG_in, toldQ_of e⟩
  keeps := fun _ _ _ ⟨K, hK, c⟩ k => ⟨K, PySem.W.Frag.In.keeps hK k, c⟩
def obQ (n : Nat) (fa : List He.Fa) (fn fx : List Df) (ex : Fg → Bool) (s : PySem.W.SharedT) : AlQ := lookQ fa fn fx ex (He.frG (HandSHeadRun.getT s) (cStatics :: He.asD (HandSHeadRun.getT s) n))
def oexB (K : Fg) (C : Addr) : Bool := (match K.lookup C with
  | some ⟨.type c, _, .cls cd, sl⟩ => (match cd.mro, sl.toList with
    | .ref C' :: bm, [_, _, _, _, some (.builtin n), _] => decide (c = "type") && (decide (C' = C) && (decide (n = "ValueError.__new__") && (cd.hasDict && (!cd.hasDel && PySem.HandSPX.refsVE bm))))
    | _, _ => false)
  | _ => false) && (He.eqO (PySem.W.findIn K (.ref C) "__setattr__") (some (some (.builtin "object.__setattr__"))) && (decide (PySem.W.subIn K (.ref C) (.type "BaseException") = some true) && (decide (PySem.W.typeIn K (.ref C) = some (.type "type")) && PySem.W.keepIn K (.ref C))))
/-- all that is asked of the class C and its __init__ -/
def supB (fl : Str) (K : Fg) (C : Addr) (x qu : Str) : Bool := oexB K C && (He.eqO (PySem.W.ks_superIn K C C "__init__") (some (some (.builtin "ValueError.__init__"))) && (decide (PySem.W.mroIn K C (.ref C) = some true) && (decide (PySem.W.subIn K (.ref C) (.type "ValueError") = some true) &&
  (He.eqO (PySem.W.nsIn K cStatics "thirdparty.any") (some none) && (He.eqO (PySem.W.findIn K (.ref C) x) (some none) && (He.eqO (PySem.W.nsIn K mainGlobals "super") (some none) && (He.eqO (PySem.W.findIn K (.ref C) "__init__") (some (some (.ref (He.ma K C "__init__")))) &&
  (decide (PySem.W.typeIn K (.ref (He.ma K C "__init__")) = some (.type "function")) && (match K.lookup (He.ma K C "__init__") with
  | some ⟨_, _, .func g, _⟩ => (match g.closure, g.code with
    | [(_, cc)], .ref cda => PySem.W.codeIn K (.ref cda) qu && (decide (g.defaults = .none) && ((match K.lookup cc with
      | some ⟨_, _, .cell (some (.ref C')), _⟩ => decide (C' = C)
      | _ => false) && (match K.lookup cda with
      | some ⟨_, _, .fields vs, _⟩ => (match (vs[2]? : Option Value) with
        | some (.str file _) => fl == file
        | _ => false)
      | _ => false)))
    | _, _ => false)
  | _ => false)))))))))
def xcB (K : Fg) (C : Addr) (f : Str) : Bool := xfB K C && (He.eqO (PySem.W.findIn K (.ref C) f) (some none) && (He.eqO (PySem.W.findIn K (.ref C) "__class__") (some (some (.builtin "object.__class__"))) && (He.eqO (PySem.W.specialIn K (.builtin "object.__class__") "__get__") (some (some (.builtin "getset_descriptor.__get__"))) &&
  (decide (PySem.W.takesIn K (.builtin "object.__class__") = some true) && decide (PySem.W.mroIn K C (.type "object") = some true)))))
end Dt
set_option Elab.async false
set_option linter.all false
set_option maxRecDepth 100000
set_option maxHeartbeats 4000000
set_option Elab.async false
set_option linter.all false
set_option maxRecDepth 100000
set_option maxHeartbeats 4000000
set_option Elab.async false
set_option linter.all false
set_option maxRecDepth 100000
set_option maxHeartbeats 4000000
set_option Elab.async false
set_option linter.all false
set_option maxRecDepth 100000
set_option maxHeartbeats 2000000
namespace Dt
open PySem PySem.Spec PyProof.Rows L2
section
variable {X : Cx} {Γ : Sl} {M : Mem} {Φ : VP} {Ψ : Po} {a b c e o tg elt iter : Expr} {ifs : List Expr} {scope : Scope} {own : List (Str × Nat)} {body : List Stmt} {pos p pos2 pos' : Pos} {Θ : Sl → Mem → Prop} {d : D}
/-- a list: one that changes no more, or one of one's own -/
def LstD (M : Mem) (d : D) (ds : List D) : Prop := d = .lst ds ∨ ∃ (k : Nat) (l : Addr), d = .adr l ∧ M[k]? = some (l, .lst ds)
theorem LstD.at_ {K : PySem.W.Frag} {P H : Hp} {v : V} {ds : List D} (h : LstD M d ds) (m : MOk K M P H) (i : IsD K P v d) : ∃ l xs, v = .ref l ∧ SqL K H l xs ∧ IsDs K P xs ds := by
  rcases h with rfl | ⟨k, l, rfl, hk⟩
  · cases i with
    | lst hq hl hi => exact ⟨_, _, rfl, m.ex.seq hq, hl, hi⟩
  · cases i
    obtain ⟨_, xs, h1, h2⟩ := m.get hk
    exact ⟨_, _, rfl, SqL.of h1, h2⟩
end
end Dt
set_option Elab.async false
set_option linter.all false
set_option maxRecDepth 100000
set_option maxHeartbeats 2000000
namespace Dt
open PySem PySem.Spec PyProof.Rows L2
section
variable {X : Cx} {Γ : Sl} {M : Mem} {Φ : VP} {o e : Expr} {apos pos : Pos}
/-- a list or tuple of texts -/
def StrsD (M : Mem) (d : D) (ys : List Str) : Prop := LstD M d (ys.map D.str) ∨ d = .tup (ys.map D.str)
theorem StrsD.at_ {K : PySem.W.Frag} {P H : Hp} {v : V} {d : D} {ys : List Str} (h : StrsD M d ys) (m : MOk K M P H) (i : IsD K P v d) : ∃ p, v = .ref p ∧ (SqL K H p (ys.map V.str) ∨ SqT K H p (ys.map V.str)) := by
  rcases h with h | rfl
  · obtain ⟨l, xs, rfl, h1, h2⟩ := h.at_ m i
    rw [strs_of h2] at h1
    exact ⟨l, rfl, .inl h1⟩
  · cases i with
    | tup hs hl hi =>
      rw [strs_of ⟨hl, hi⟩] at hs
      exact ⟨_, rfl, .inr (Same.tupS m.ex hs)⟩
end
end Dt
set_option Elab.async false
set_option linter.all false
set_option maxRecDepth 100000
set_option maxHeartbeats 2000000
namespace Dt
open PySem PySem.Spec PyProof.Rows L2
theorem len_le_of : ∀ (as bs : List Int), as.Nodup → (∀ k, k ∈ as → k ∈ bs) → as.length ≤ bs.length
  | [], bs, _, _ => Nat.zero_le _
  | a :: as, bs, hn, h => by
    obtain ⟨h1, h2⟩ := List.nodup_cons.mp hn
    have ha := h a List.mem_cons_self
    have := len_le_of as (bs.erase a) h2 fun c hc => (List.mem_erase_of_ne (fun (e : c = a) => h1 (e ▸ hc))).mpr (h c (List.mem_cons_of_mem _ hc))
    rw [List.length_erase_of_mem ha] at this
    have := List.length_pos_of_mem ha
    rw [List.length_cons]
    omega
/-- cells that can be ordered -/
structure OrdOk (cs : List (Int × Int)) : Prop where
  len : cs.length ≤ 1000
  xs : (sortU (cs.map (·.1))).length < 64
  ys : ∀ x, (sortU ((cs.filter fun c => decide (c.1 = x)).map (·.2))).length < 64
theorem OrdOk.of {cs : List (Int × Int)} (h : cs.length < 64) : OrdOk cs := ⟨by omega, by
    have := sortU_len (cs.map (·.1))
    rw [List.length_map] at this
    omega, fun x => by
    have := sortU_len ((cs.filter fun c => decide (c.1 = x)).map (·.2))
    have h2 := List.length_filter_le (fun c : Int × Int => decide (c.1 = x)) cs
    rw [List.length_map] at this
    omega⟩
/-- numbers between bounds are few -/
theorem few {ns : List Int} {a : Int} {n : Nat} (h : ∀ k, k ∈ ns → a ≤ k ∧ k < a + n) : (sortU ns).length ≤ n := by
  have := len_le_of (sortU ns) (rn a n) ((pw_sortU ns).imp fun {x y} q e => by omega) fun k hk => by
    rw [mem_sortU] at hk
    obtain ⟨h1, h2⟩ := h k hk
    unfold rn
    exact List.mem_map.mpr ⟨(k - a).toNat, List.mem_range.mpr (by omega), by omega⟩
  rw [rn_len] at this
  exact this
end Dt
set_option Elab.async false
set_option linter.all false
set_option maxRecDepth 100000
set_option maxHeartbeats 2000000
namespace Dt
open PySem PySem.Spec PyProof.Rows L2
def Box (a1 a2 b1 b2 : Int) (ks : List (Int × Int)) : Prop := ∀ c, c ∈ ks → (a1 ≤ c.1 ∧ c.1 ≤ a2) ∧ b1 ≤ c.2 ∧ c.2 ≤ b2
theorem Box.ok {a1 a2 b1 b2 : Int} {ks : List (Int × Int)} (h : Box a1 a2 b1 b2 ks) (hl : ks.length ≤ 1000) (ha : a2 - a1 ≤ 60) (hb : b2 - b1 ≤ 60) : OrdOk ks := by
  refine ⟨hl, Nat.lt_of_le_of_lt (few (a := a1) (n := 61) fun k hk => ?_) (by decide), fun x => Nat.lt_of_le_of_lt (few (a := b1) (n := 61) fun k hk => ?_) (by decide)⟩
  · obtain ⟨c, hc, rfl⟩ := List.mem_map.mp hk
    have := h c hc
    omega
  · obtain ⟨c, hc, rfl⟩ := List.mem_map.mp hk
    have := h c (List.mem_filter.mp hc).1
    omega
end Dt
set_option Elab.async false
set_option linter.all false
set_option maxRecDepth 100000
set_option maxHeartbeats 2000000
namespace Dt
open PySem PySem.Spec PyProof.Rows L2
/-- a list of two numbers at p, the deal behind it at k -/
def LfAt (M : Mem) (p k : Nat) (lL l l2 : Addr) : Prop := p < k ∧ (∃ a b : Int, M[p]? = some (lL, .lst [.int a, .int b])) ∧ DealAt M k l l2
section
variable {M : Mem} {p k : Nat} {lL l l2 : Addr} {a b a' b' : Int} {gs gs' : List Int} {m m' : Int} {x : Addr × MO}
theorem LfAt.len (h : LfAt M p k lL l l2) : k + 1 < M.length := h.2.2.len
end
end Dt
set_option Elab.async false
set_option linter.all false
set_option maxRecDepth 100000
set_option maxHeartbeats 2000000
namespace Dt
open PySem PySem.Spec PyProof.Rows L2
section
variable {P : Program} {w : World} {K : Fg} {h base : Heap} {mg : Str → Option Value} {k j : Nat} {x qual : Str} {params : Arguments} {body : List Stmt} {scope : Scope} {fd : FuncData} {ps : List Str} {S : DS} {C : Addr}
theorem HasFn.mono (F : HasFn P w K mg base k x S) (hk : k ≤ j) : HasFn P w K mg base j x S := by
  obtain ⟨f, fd, ps, F1, r⟩ := F
  exact ⟨f, fd, ps, F1.mono hk, r⟩
theorem HasMe.mono (F : HasMe P w K mg base k C x S) (hk : k ≤ j) : HasMe P w K mg base j C x S := by
  obtain ⟨f, fd, ps, F1, r⟩ := F
  exact ⟨f, fd, ps, F1.mono hk, r⟩
theorem HasMk.mono {n : Str} (F : HasMk P w K mg base k C n S) (hk : k ≤ j) : HasMk P w K mg base j C n S := by
  obtain ⟨f, fd, ps, F1, r⟩ := F
  exact ⟨f, fd, ps, F1.mono hk, r⟩
end
end Dt
set_option Elab.async false
set_option linter.all false
set_option maxRecDepth 100000
set_option maxHeartbeats 4000000
set_option Elab.async false
set_option linter.all false
set_option maxRecDepth 100000
set_option maxHeartbeats 4000000
set_option Elab.async false
set_option linter.all false
set_option maxRecDepth 100000
set_option maxHeartbeats 4000000
namespace Dt
open PySem PySem.Spec PyProof.Rows L2
/-- what is known of a built-in error: its __init__ bound to an own one, its class called -/
structure ExB (B nid iid : String) (tl : List Value) : Prop where
  ini : ∀ {M : Model} {A : Around} {E : Value → Shared → Prop} {h : Heap} {g : Array GenState} {d : Drawn} {t : Nat} {os : OsState} {nm q : Str} {C N e : Addr} {oe : Obj} {bs : List Value} {hdct : Bool} {sn : List Str} {sub : List Value} {ab : Bool} {col : Option Bool} {dd : Option Addr} {k0 k1 k2 k3 k5 : Option Value} {rest : List Value} {Q : Unit → Shared → Prop},
    h.get? C = some (excClassObj nm q C N bs tl hdct sn sub ab col dd k0 k1 k2 k3 k5 nid) → h.get? e = some oe → oe.cls = .ref C → Q () ⟨h, g, d, t, os⟩ → wpAny M A (PySem.checkBoundCall iid ⟨.ref e :: rest, []⟩) Q E ⟨h, g, d, t, os⟩
  ipl : plainId iid = true
  ient : entryFor table iid = some Builtin.«BaseException.__init__»
  call : ∀ {prog : Program} {w : World} {A : Around} {R : Result → Shared → Prop} {h : Heap} {g : Array GenState} {d : Drawn} {t : Nat} {os : OsState} {nm q : Str} {C N : Addr} {bs : List Value} {hdct : Bool} {sn : List Str} {sub : List Value} {ab : Bool} {col : Option Bool} {dd : Option Addr} {k0 k1 k2 k3 k5 : Option Value} {rest : List Value} {fI : Addr},
    h.get? C = some (excClassObj nm q C N bs tl hdct sn sub ab col dd k0 k1 k2 k3 k5 nid) → PySem.W.Looks (model prog w) h (typeLookup (.ref C) "__init__") (some (.ref fI)) → (∀ self, PySem.W.Looks (model prog w) h (bindSpecial (.ref fI) self) (.ref fI, [self])) → rest.length ≤ sizeLine →
    codeAny (model prog w) (A.under (.builtin "type.__call__" ⟨.ref C :: rest, []⟩)) (.call (.ref fI) ⟨.ref (h.objs.size + 1) :: rest, []⟩) (PySem.W.InitBack (h.objs.size + 1) R) ⟨(h.push (PySem.W.kdv_tup rest)).push (PySem.HandSPX.excO C h.objs.size), g, d, t, os⟩ →
    codeAny (model prog w) A (.call (.ref C) ⟨rest, []⟩) R ⟨h, g, d, t, os⟩
  kxs : PySem.W.KxsFacts B iid
  pas : ∀ self : Value, refuseLoop self "__setattr__" tl = pure ()
  hob : tl.contains (.type "object") = true
theorem ExB.of {B nid iid : String} {tl : List Value} (b : ExcBaseFacts B nid iid tl) (kxs : PySem.W.KxsFacts B iid) (pas : ∀ self : Value, refuseLoop self "__setattr__" tl = pure ()) (hob : tl.contains (.type "object") = true) : ExB B nid iid tl :=
  ⟨fun hC he hcls hq => PySem.W.check_bound_init b.toExcCallFacts hC he hcls hq, b.init.plain, b.initEntry, fun hC hi hb hr hq => PySem.HandSPX.call_own b (fun _ => rfl) hC hi hb hr hq, kxs, pas, hob⟩
abbrev ieT : List Value := [.type "IndexError", .type "LookupError", .type "Exception", .type "BaseException", .type "object"]
def oexGB (K : Fg) (C : Addr) (nid : String) (tl : List Value) : Bool := (match K.lookup C with
  | some ⟨.type c, _, .cls cd, sl⟩ => (match cd.mro, sl.toList with
    | .ref C' :: bm, [_, _, _, _, some (.builtin n), _] => decide (c = "type") && (decide (C' = C) && (decide (n = nid) && (cd.hasDict && (!cd.hasDel && (bm == tl)))))
    | _, _ => false)
  | _ => false) && (He.eqO (PySem.W.findIn K (.ref C) "__setattr__") (some (some (.builtin "object.__setattr__"))) && (decide (PySem.W.subIn K (.ref C) (.type "BaseException") = some true) && (decide (PySem.W.typeIn K (.ref C) = some (.type "type")) && PySem.W.keepIn K (.ref C))))
def supGB (B nid iid : String) (tl : List Value) (fl : Str) (K : Fg) (C : Addr) (x qu : Str) : Bool := oexGB K C nid tl && (He.eqO (PySem.W.ks_superIn K C C "__init__") (some (some (.builtin iid))) && (decide (PySem.W.mroIn K C (.ref C) = some true) && (decide (PySem.W.subIn K (.ref C) (.type B) = some true) &&
  (He.eqO (PySem.W.nsIn K cStatics "thirdparty.any") (some none) && (He.eqO (PySem.W.findIn K (.ref C) x) (some none) && (He.eqO (PySem.W.nsIn K mainGlobals "super") (some none) && (He.eqO (PySem.W.findIn K (.ref C) "__init__") (some (some (.ref (He.ma K C "__init__")))) &&
  (decide (PySem.W.typeIn K (.ref (He.ma K C "__init__")) = some (.type "function")) && (match K.lookup (He.ma K C "__init__") with
  | some ⟨_, _, .func g, _⟩ => (match g.closure, g.code with
    | [(_, cc)], .ref cda => PySem.W.codeIn K (.ref cda) qu && (decide (g.defaults = .none) && ((match K.lookup cc with
      | some ⟨_, _, .cell (some (.ref C')), _⟩ => decide (C' = C)
      | _ => false) && (match K.lookup cda with
      | some ⟨_, _, .fields vs, _⟩ => (match (vs[2]? : Option Value) with
        | some (.str file _) => fl == file
        | _ => false)
      | _ => false)))
    | _, _ => false)
  | _ => false)))))))))
end Dt
set_option Elab.async false
set_option linter.all false
set_option maxRecDepth 100000
set_option maxHeartbeats 2000000
namespace Dt
open PySem PySem.Spec PyProof.Rows L2
/-- d' tells d with the list at r, which holds ds -/
def Rp (r : Addr) (ds : List D) (d d' : D) : Prop := d' = d ∨ (d = .adr r ∧ d' = .lst ds)
inductive RpL (r : Addr) (ds : List D) : List D → List D → Prop
  | nil : RpL r ds [] []
  | cons {d d' : D} {xs ys : List D} (h : Rp r ds d d') (t : RpL r ds xs ys) : RpL r ds (d :: xs) (d' :: ys)
inductive RpF (r : Addr) (ds : List D) : List (Str × D) → List (Str × D) → Prop
  | nil : RpF r ds [] []
  | cons {f : Str} {d d' : D} {xs ys : List (Str × D)} (h : Rp r ds d d') (t : RpF r ds xs ys) : RpF r ds ((f, d) :: xs) ((f, d') :: ys)
inductive RpM (r : Addr) (ds : List D) : MO → MO → Prop
  | lst {xs ys : List D} (h : RpL r ds xs ys) : RpM r ds (.lst xs) (.lst ys)
  | ins {C : Addr} {xs ys : List (Str × D)} (h : RpF r ds xs ys) : RpM r ds (.ins C xs) (.ins C ys)
inductive RpA (r : Addr) (ds : List D) : Mem → Mem → Prop
  | nil : RpA r ds [] []
  | cons {a : Addr} {m m' : MO} {xs ys : Mem} (h : RpM r ds m m') (t : RpA r ds xs ys) : RpA r ds ((a, m) :: xs) ((a, m') :: ys)
inductive RpS (r : Addr) (ds : List D) : Sl → Sl → Prop
  | nil : RpS r ds [] []
  | none {y : Option D} {xs ys : Sl} (t : RpS r ds xs ys) : RpS r ds (y :: xs) (none :: ys)
  | some {d d' : D} {xs ys : Sl} (h : Rp r ds d d') (t : RpS r ds xs ys) : RpS r ds (some d :: xs) (some d' :: ys)
end Dt
set_option Elab.async false
set_option linter.all false
set_option maxRecDepth 100000
set_option maxHeartbeats 2000000
namespace Dt
open PySem PySem.Spec PyProof.Rows L2
theorem Rp.refl {r : Addr} {ds : List D} (d : D) : Rp r ds d d := .inl rfl
theorem RpL.refl {r : Addr} {ds : List D} : ∀ xs : List D, RpL r ds xs xs
  | [] => .nil
  | x :: xs => .cons (.inl rfl) (RpL.refl xs)
theorem RpF.refl {r : Addr} {ds : List D} : ∀ xs : List (Str × D), RpF r ds xs xs
  | [] => .nil
  | (f, x) :: xs => .cons (.inl rfl) (RpF.refl xs)
theorem RpM.refl {r : Addr} {ds : List D} : ∀ m : MO, RpM r ds m m
  | .lst xs => .lst (.refl xs)
  | .ins C xs => .ins (.refl xs)
theorem RpA.refl {r : Addr} {ds : List D} : ∀ M : Mem, RpA r ds M M
  | [] => .nil
  | (a, m) :: M => .cons (.refl m) (RpA.refl M)
theorem RpS.refl {r : Addr} {ds : List D} : ∀ s : Sl, RpS r ds s s
  | [] => .nil
  | Option.none :: s => .none (RpS.refl s)
  | Option.some d :: s => .some (.inl rfl) (RpS.refl s)
end Dt
set_option Elab.async false
set_option linter.all false
set_option maxRecDepth 100000
set_option maxHeartbeats 2000000
set_option Elab.async false
set_option linter.all false
set_option maxRecDepth 100000
set_option maxHeartbeats 4000000
set_option Elab.async false
set_option linter.all false
set_option maxRecDepth 100000
set_option maxHeartbeats 4000000
set_option Elab.async false
set_option linter.all false
set_option maxRecDepth 100000
set_option maxHeartbeats 4000000
set_option Elab.async false
set_option linter.all false
set_option maxRecDepth 100000
set_option maxHeartbeats 4000000
set_option Elab.async false
set_option linter.all false
set_option maxRecDepth 100000
set_option maxHeartbeats 4000000
namespace Dt
open PySem PySem.Spec PyProof.Rows L2
abbrev keT : List Value := [.type "KeyError", .type "LookupError", .type "Exception", .type "BaseException", .type "object"]
end Dt
set_option Elab.async false
set_option linter.all false
set_option maxRecDepth 100000
set_option maxHeartbeats 0
namespace Sl57
open PySem PySem.Spec PyProof.Rows L2 Dt
def topH (i : Nat) : Stmt := PySem.Challenge.pw_slipsights_k01_errors_and_what_they_keep.main.body.getD i (.Pass ⟨0, 0, 0, 0⟩)
abbrev Pg : Program := (PySem.Challenge.rw_slipsights_k01_errors_and_what_they_keep).prog
def fa : List He.Fa := [.glo "_law_deal", .glo "_law_draw", .glo "_law_pick", .glo "_law_any", .glo "InvalidSite", .glo "InvalidRow", .glo "InvalidPlan", .glo "InvalidText", .glo "InvalidRun", .glo "InvalidSpan", .glo "InvalidCells", .glo "Mismatch", .glo "Refused", .glo "NoRow", .glo "NoName", .glo "InvalidCommand", .glo "SightError", .free "KeyError", .free "IndexError", .free "ValueError", .glo "_law_kept", .glo "_law_sorts", .free "len", .free "all", .free "any", .free "isinstance", .free "int", .free "bool", .free "str", .free "tuple", .free "list", .free "range", .free "enumerate", .free "zip", .free "abs", .free "max", .free "min", .free "sum", .free "sorted", .free "repr", .free "set", .glo "law"]
abbrev csH (K : Fg) : Nat → Addr := fun i => ([(He.ga K "InvalidSite"), (He.ga K "InvalidRow"), (He.ga K "InvalidPlan"), (He.ga K "InvalidText"), (He.ga K "InvalidRun"), (He.ga K "InvalidSpan"), (He.ga K "InvalidCells"), (He.ga K "InvalidCommand"), (He.ga K "Mismatch"), (He.ga K "Refused")] : List Addr).getD i 0
abbrev dx_0 : Df := ⟨locM "InvalidSite" "__init__", "__init__", "InvalidSite.__init__", defArgs (inClass (topH 2) 0), defBody (inClass (topH 2) 0), defScope (inClass (topH 2) 0), [], []⟩
abbrev dx_1 : Df := ⟨locM "InvalidRow" "__init__", "__init__", "InvalidRow.__init__", defArgs (inClass (topH 3) 0), defBody (inClass (topH 3) 0), defScope (inClass (topH 3) 0), [], []⟩
abbrev dx_2 : Df := ⟨locM "InvalidPlan" "__init__", "__init__", "InvalidPlan.__init__", defArgs (inClass (topH 4) 0), defBody (inClass (topH 4) 0), defScope (inClass (topH 4) 0), [], []⟩
abbrev dx_3 : Df := ⟨locM "InvalidText" "__init__", "__init__", "InvalidText.__init__", defArgs (inClass (topH 5) 0), defBody (inClass (topH 5) 0), defScope (inClass (topH 5) 0), [], []⟩
abbrev dx_4 : Df := ⟨locM "InvalidRun" "__init__", "__init__", "InvalidRun.__init__", defArgs (inClass (topH 6) 0), defBody (inClass (topH 6) 0), defScope (inClass (topH 6) 0), [], []⟩
abbrev dx_5 : Df := ⟨locM "InvalidSpan" "__init__", "__init__", "InvalidSpan.__init__", defArgs (inClass (topH 7) 0), defBody (inClass (topH 7) 0), defScope (inClass (topH 7) 0), [], []⟩
abbrev dx_6 : Df := ⟨locM "InvalidCells" "__init__", "__init__", "InvalidCells.__init__", defArgs (inClass (topH 8) 0), defBody (inClass (topH 8) 0), defScope (inClass (topH 8) 0), [], []⟩
abbrev dx_7 : Df := ⟨locM "Mismatch" "__init__", "__init__", "Mismatch.__init__", defArgs (inClass (topH 10) 0), defBody (inClass (topH 10) 0), defScope (inClass (topH 10) 0), [], []⟩
abbrev dx_8 : Df := ⟨locM "Refused" "__init__", "__init__", "Refused.__init__", defArgs (inClass (topH 11) 0), defBody (inClass (topH 11) 0), defScope (inClass (topH 11) 0), [], []⟩
abbrev dx_9 : Df := ⟨locM "NoRow" "__init__", "__init__", "NoRow.__init__", defArgs (inClass (topH 12) 0), defBody (inClass (topH 12) 0), defScope (inClass (topH 12) 0), [], []⟩
abbrev dx_10 : Df := ⟨locM "NoName" "__init__", "__init__", "NoName.__init__", defArgs (inClass (topH 13) 0), defBody (inClass (topH 13) 0), defScope (inClass (topH 13) 0), [], []⟩
def fx : List Df := [dx_0, dx_1, dx_2, dx_3, dx_4, dx_5, dx_6, dx_7, dx_8, dx_9, dx_10]
def fn : List Df := [⟨locG "_law_deal", "_law_deal", "_law_deal", defArgs (topH 15), defBody (topH 15), defScope (topH 15), [], []⟩,
  ⟨locG "_law_draw", "_law_draw", "_law_draw", defArgs (topH 16), defBody (topH 16), defScope (topH 16), [], []⟩,
  ⟨locG "_law_pick", "_law_pick", "_law_pick", defArgs (topH 17), defBody (topH 17), defScope (topH 17), [], []⟩,
  ⟨locG "_law_any", "_law_any", "_law_any", defArgs (topH 18), defBody (topH 18), defScope (topH 18), [], []⟩,
  ⟨locG "_law_kept", "_law_kept", "_law_kept", defArgs (topH 19), defBody (topH 19), defScope (topH 19), [], []⟩,
  ⟨locG "_law_sorts", "_law_sorts", "_law_sorts", defArgs (topH 20), defBody (topH 20), defScope (topH 20), [], []⟩,
  ⟨locG "law", "law", "law", defArgs (topH 21), defBody (topH 21), defScope (topH 21), [], []⟩]
def ex (K : Fg) : Bool := (supB Pg.main.file K (He.ga K "InvalidSite") "word" "InvalidSite.__init__") && (supB Pg.main.file K (He.ga K "InvalidRow") "word" "InvalidRow.__init__") && (supB Pg.main.file K (He.ga K "InvalidPlan") "word" "InvalidPlan.__init__") && (supB Pg.main.file K (He.ga K "InvalidText") "at" "InvalidText.__init__") && (supB Pg.main.file K (He.ga K "InvalidRun") "at" "InvalidRun.__init__") && (supB Pg.main.file K (He.ga K "InvalidSpan") "word" "InvalidSpan.__init__") && (supB Pg.main.file K (He.ga K "InvalidCells") "at" "InvalidCells.__init__") && (supB Pg.main.file K (He.ga K "Mismatch") "name" "Mismatch.__init__") && (supB Pg.main.file K (He.ga K "Refused") "word" "Refused.__init__") && (supGB "IndexError" "IndexError.__new__" "IndexError.__init__" ieT Pg.main.file K (He.ga K "NoRow") "at" "NoRow.__init__") && (supGB "KeyError" "LookupError.__new__" "KeyError.__init__" keT Pg.main.file K (He.ga K "NoName") "name" "NoName.__init__") && (xcB K (He.ga K "InvalidSite") "word") && (xcB K (He.ga K "InvalidRow") "word") && (xcB K (He.ga K "InvalidPlan") "word") && (xcB K (He.ga K "InvalidText") "at") && (xcB K (He.ga K "InvalidRun") "at") && (xcB K (He.ga K "InvalidSpan") "word") && (xcB K (He.ga K "InvalidCells") "at") && (xcB K (He.ga K "InvalidCommand") "at") && (xcB K (He.ga K "Mismatch") "name") && (xcB K (He.ga K "Refused") "word") && (xcB K (He.ga K "NoRow") "at") && (xcB K (He.ga K "NoName") "name") && (decide (∀ i : Fin 10, ∀ j : Fin 10, PySem.W.kitOne K (.ref (csH K i.val)) (.ref (csH K j.val)) = some (decide (i.val = j.val)))) && (decide (∀ i : Fin 10, PySem.W.kitOne K (.ref (csH K i.val)) (.ref (He.ga K "SightError")) = some true ∧ PySem.W.kitOne K (.ref (csH K i.val)) (.type "ValueError") = some true ∧ PySem.W.kitOne K (.ref (csH K i.val)) (.type "KeyError") = some false ∧ PySem.W.kitOne K (.ref (csH K i.val)) (.type "IndexError") = some false)) && (PySem.W.excIn K (He.ga K "InvalidCommand") [.type "ValueError", .type "Exception", .type "BaseException", .type "object"] "ValueError.__new__") && (PySem.W.keepIn K (.ref (He.ga K "InvalidCommand"))) && (decide (PySem.W.subIn K (.ref (He.ga K "InvalidCommand")) (.type "BaseException") = some true)) && (decide (PySem.W.typeIn K (.ref (He.ga K "InvalidCommand")) = some (.type "type"))) && (decide (PySem.W.kitOne K (.ref (He.ga K "NoRow")) (.type "IndexError") = some true)) && (decide (PySem.W.kitOne K (.ref (He.ga K "NoName")) (.type "KeyError") = some true)) && (decide (PySem.W.kitOne K (.ref (He.ga K "NoRow")) (.ref (He.ga K "SightError")) = some false)) && (decide (PySem.W.kitOne K (.ref (He.ga K "NoRow")) (.type "KeyError") = some false)) && (decide (PySem.W.kitOne K (.ref (He.ga K "NoName")) (.ref (He.ga K "SightError")) = some false)) && (decide (PySem.W.kitOne K (.ref (He.ga K "NoName")) (.type "IndexError") = some false))
abbrev R : PySem.W.OpenRow := PySem.W.OpenLaw.row PySem.Challenge.rw_slipsights_k01_errors_and_what_they_keep
abbrev hk : PySem.W.Hook := hookQ 6 fa fn fx ex
def ob : PySem.W.SharedT → AlQ := obQ 6 fa fn fx ex
def loose : List PySem.Str := ["SightError", "InvalidSite", "InvalidRow", "InvalidPlan", "InvalidText", "InvalidRun", "InvalidSpan", "InvalidCells", "InvalidCommand", "Mismatch", "Refused", "NoRow", "NoName", "_law_deal", "_law_draw", "_law_pick", "_law_any", "_law_kept", "_law_sorts"]
theorem run (w : World) : HandSHeadRun.RunEq R (PySem.W.view R.prog [21]) hk ob 20000 loose w := by
  intro os
  kernel_rfl
end Sl57
set_option Elab.async false
set_option linter.all false
set_option maxRecDepth 100000
set_option maxHeartbeats 1000000
namespace Sl57
open PySem PySem.Spec PyProof.Rows L2 Dt
set_option hygiene false
local macro_rules | `(tactic| walk_at "op") => `(tactic| (first
  | refine od_add ?_ | refine od_sub ?_ | refine od_lt ?_ | refine od_le ?_ | refine od_gt ?_ | refine od_ge ?_ | refine od_eq ?_ | refine od_ne ?_ | refine od_is ?_ | refine od_isn ?_
  | refine od_eqS ?_ | refine od_neS ?_ | refine od_eqB ?_ | refine od_neB ?_))
local macro_rules | `(tactic| walk_at "dead") => `(tactic| (first
  | (cases hb; done)
  | (exact absurd (show false = true from hb) (by decide))
  | (exact absurd (show true = false from hb) (by decide))
  | (exact absurd hb (by decide))
  | (exfalso; simp only [decide_eq_true_eq, decide_eq_false_iff_not, Bool.not_eq_true', Bool.not_eq_false'] at hb; omega)))
local macro_rules | `(tactic| walk_at "tidy") => `(tactic| (try simp only [decide_eq_true_eq, decide_eq_false_iff_not, Bool.not_eq_true', Bool.not_eq_false'] at hb))
local macro_rules | `(tactic| walk_at "truth") => `(tactic| (first | refine tr_bl ?_ | refine tr_lst ?_ | refine tr_tup ?_ | refine tr_non ?_ | refine tr_int ?_))
local macro_rules | `(tactic| walk_at "ix") => `(tactic| (first
  | refine ix_tup (j := 0) rfl rfl ?_ | refine ix_tup (j := 1) rfl rfl ?_ | refine ix_tup (j := 2) rfl rfl ?_
  | refine ix_lst (j := 0) rfl rfl ?_ | refine ix_lst (j := 1) rfl rfl ?_ | refine ix_lst (j := 2) rfl rfl ?_
  | refine ix_own (k := 0) (j := 0) rfl rfl rfl ?_
  | refine ix_own (k := 0) (j := 1) rfl rfl rfl ?_
  | refine ix_own (k := 0) (j := 2) rfl rfl rfl ?_
  | refine ix_own (k := 1) (j := 0) rfl rfl rfl ?_
  | refine ix_own (k := 1) (j := 1) rfl rfl rfl ?_
  | refine ix_own (k := 1) (j := 2) rfl rfl rfl ?_
  | refine ix_own (k := 2) (j := 0) rfl rfl rfl ?_
  | refine ix_own (k := 2) (j := 1) rfl rfl rfl ?_
  | refine ix_own (k := 2) (j := 2) rfl rfl rfl ?_
  | refine ix_own (k := 3) (j := 0) rfl rfl rfl ?_
  | refine ix_own (k := 3) (j := 1) rfl rfl rfl ?_
  | refine ix_own (k := 3) (j := 2) rfl rfl rfl ?_
  | refine ix_own (k := 4) (j := 0) rfl rfl rfl ?_
  | refine ix_own (k := 4) (j := 1) rfl rfl rfl ?_
  | refine ix_own (k := 4) (j := 2) rfl rfl rfl ?_
  | refine ix_own (k := 5) (j := 0) rfl rfl rfl ?_
  | refine ix_own (k := 5) (j := 1) rfl rfl rfl ?_
  | refine ix_own (k := 5) (j := 2) rfl rfl rfl ?_
  | refine ix_own (k := 6) (j := 0) rfl rfl rfl ?_
  | refine ix_own (k := 6) (j := 1) rfl rfl rfl ?_
  | refine ix_own (k := 6) (j := 2) rfl rfl rfl ?_
  | refine ix_own (k := 7) (j := 0) rfl rfl rfl ?_
  | refine ix_own (k := 7) (j := 1) rfl rfl rfl ?_
  | refine ix_own (k := 7) (j := 2) rfl rfl rfl ?_
  | refine ix_own (k := 8) (j := 0) rfl rfl rfl ?_
  | refine ix_own (k := 8) (j := 1) rfl rfl rfl ?_
  | refine ix_own (k := 8) (j := 2) rfl rfl rfl ?_
  | refine ix_own (k := 9) (j := 0) rfl rfl rfl ?_
  | refine ix_own (k := 9) (j := 1) rfl rfl rfl ?_
  | refine ix_own (k := 9) (j := 2) rfl rfl rfl ?_
  | refine ix_own (k := 10) (j := 0) rfl rfl rfl ?_
  | refine ix_own (k := 10) (j := 1) rfl rfl rfl ?_
  | refine ix_own (k := 10) (j := 2) rfl rfl rfl ?_
  | refine ix_own (k := 11) (j := 0) rfl rfl rfl ?_
  | refine ix_own (k := 11) (j := 1) rfl rfl rfl ?_
  | refine ix_own (k := 11) (j := 2) rfl rfl rfl ?_
  | refine ix_own (k := 12) (j := 0) rfl rfl rfl ?_
  | refine ix_own (k := 12) (j := 1) rfl rfl rfl ?_
  | refine ix_own (k := 12) (j := 2) rfl rfl rfl ?_
  | refine ix_own (k := 13) (j := 0) rfl rfl rfl ?_
  | refine ix_own (k := 13) (j := 1) rfl rfl rfl ?_
  | refine ix_own (k := 13) (j := 2) rfl rfl rfl ?_))
local macro_rules | `(tactic| walk_at "seti") => `(tactic| (first
  | refine ⟨0, 0, _, _, _, rfl, rfl, rfl, rfl, of_decide_eq_true rfl, ?_⟩
  | refine ⟨0, 1, _, _, _, rfl, rfl, rfl, rfl, of_decide_eq_true rfl, ?_⟩
  | refine ⟨0, 2, _, _, _, rfl, rfl, rfl, rfl, of_decide_eq_true rfl, ?_⟩
  | refine ⟨1, 0, _, _, _, rfl, rfl, rfl, rfl, of_decide_eq_true rfl, ?_⟩
  | refine ⟨1, 1, _, _, _, rfl, rfl, rfl, rfl, of_decide_eq_true rfl, ?_⟩
  | refine ⟨1, 2, _, _, _, rfl, rfl, rfl, rfl, of_decide_eq_true rfl, ?_⟩
  | refine ⟨2, 0, _, _, _, rfl, rfl, rfl, rfl, of_decide_eq_true rfl, ?_⟩
  | refine ⟨2, 1, _, _, _, rfl, rfl, rfl, rfl, of_decide_eq_true rfl, ?_⟩
  | refine ⟨2, 2, _, _, _, rfl, rfl, rfl, rfl, of_decide_eq_true rfl, ?_⟩
  | refine ⟨3, 0, _, _, _, rfl, rfl, rfl, rfl, of_decide_eq_true rfl, ?_⟩
  | refine ⟨3, 1, _, _, _, rfl, rfl, rfl, rfl, of_decide_eq_true rfl, ?_⟩
  | refine ⟨3, 2, _, _, _, rfl, rfl, rfl, rfl, of_decide_eq_true rfl, ?_⟩
  | refine ⟨4, 0, _, _, _, rfl, rfl, rfl, rfl, of_decide_eq_true rfl, ?_⟩
  | refine ⟨4, 1, _, _, _, rfl, rfl, rfl, rfl, of_decide_eq_true rfl, ?_⟩
  | refine ⟨4, 2, _, _, _, rfl, rfl, rfl, rfl, of_decide_eq_true rfl, ?_⟩
  | refine ⟨5, 0, _, _, _, rfl, rfl, rfl, rfl, of_decide_eq_true rfl, ?_⟩
  | refine ⟨5, 1, _, _, _, rfl, rfl, rfl, rfl, of_decide_eq_true rfl, ?_⟩
  | refine ⟨5, 2, _, _, _, rfl, rfl, rfl, rfl, of_decide_eq_true rfl, ?_⟩
  | refine ⟨6, 0, _, _, _, rfl, rfl, rfl, rfl, of_decide_eq_true rfl, ?_⟩
  | refine ⟨6, 1, _, _, _, rfl, rfl, rfl, rfl, of_decide_eq_true rfl, ?_⟩
  | refine ⟨6, 2, _, _, _, rfl, rfl, rfl, rfl, of_decide_eq_true rfl, ?_⟩
  | refine ⟨7, 0, _, _, _, rfl, rfl, rfl, rfl, of_decide_eq_true rfl, ?_⟩
  | refine ⟨7, 1, _, _, _, rfl, rfl, rfl, rfl, of_decide_eq_true rfl, ?_⟩
  | refine ⟨7, 2, _, _, _, rfl, rfl, rfl, rfl, of_decide_eq_true rfl, ?_⟩
  | refine ⟨8, 0, _, _, _, rfl, rfl, rfl, rfl, of_decide_eq_true rfl, ?_⟩
  | refine ⟨8, 1, _, _, _, rfl, rfl, rfl, rfl, of_decide_eq_true rfl, ?_⟩
  | refine ⟨8, 2, _, _, _, rfl, rfl, rfl, rfl, of_decide_eq_true rfl, ?_⟩
  | refine ⟨9, 0, _, _, _, rfl, rfl, rfl, rfl, of_decide_eq_true rfl, ?_⟩
  | refine ⟨9, 1, _, _, _, rfl, rfl, rfl, rfl, of_decide_eq_true rfl, ?_⟩
  | refine ⟨9, 2, _, _, _, rfl, rfl, rfl, rfl, of_decide_eq_true rfl, ?_⟩
  | refine ⟨10, 0, _, _, _, rfl, rfl, rfl, rfl, of_decide_eq_true rfl, ?_⟩
  | refine ⟨10, 1, _, _, _, rfl, rfl, rfl, rfl, of_decide_eq_true rfl, ?_⟩
  | refine ⟨10, 2, _, _, _, rfl, rfl, rfl, rfl, of_decide_eq_true rfl, ?_⟩
  | refine ⟨11, 0, _, _, _, rfl, rfl, rfl, rfl, of_decide_eq_true rfl, ?_⟩
  | refine ⟨11, 1, _, _, _, rfl, rfl, rfl, rfl, of_decide_eq_true rfl, ?_⟩
  | refine ⟨11, 2, _, _, _, rfl, rfl, rfl, rfl, of_decide_eq_true rfl, ?_⟩
  | refine ⟨12, 0, _, _, _, rfl, rfl, rfl, rfl, of_decide_eq_true rfl, ?_⟩
  | refine ⟨12, 1, _, _, _, rfl, rfl, rfl, rfl, of_decide_eq_true rfl, ?_⟩
  | refine ⟨12, 2, _, _, _, rfl, rfl, rfl, rfl, of_decide_eq_true rfl, ?_⟩
  | refine ⟨13, 0, _, _, _, rfl, rfl, rfl, rfl, of_decide_eq_true rfl, ?_⟩
  | refine ⟨13, 1, _, _, _, rfl, rfl, rfl, rfl, of_decide_eq_true rfl, ?_⟩
  | refine ⟨13, 2, _, _, _, rfl, rfl, rfl, rfl, of_decide_eq_true rfl, ?_⟩))
local macro_rules | `(tactic| walk_at "lst") => `(tactic| (first
  | refine cd_list (.inr (.inr ⟨0, _, rfl, rfl⟩)) ?_
  | refine cd_list (.inr (.inr ⟨1, _, rfl, rfl⟩)) ?_
  | refine cd_list (.inr (.inr ⟨2, _, rfl, rfl⟩)) ?_
  | refine cd_list (.inr (.inr ⟨3, _, rfl, rfl⟩)) ?_
  | refine cd_list (.inr (.inr ⟨4, _, rfl, rfl⟩)) ?_
  | refine cd_list (.inr (.inr ⟨5, _, rfl, rfl⟩)) ?_
  | refine cd_list (.inr (.inr ⟨6, _, rfl, rfl⟩)) ?_
  | refine cd_list (.inr (.inr ⟨7, _, rfl, rfl⟩)) ?_
  | refine cd_list (.inr (.inr ⟨8, _, rfl, rfl⟩)) ?_
  | refine cd_list (.inr (.inr ⟨9, _, rfl, rfl⟩)) ?_
  | refine cd_list (.inr (.inr ⟨10, _, rfl, rfl⟩)) ?_
  | refine cd_list (.inr (.inr ⟨11, _, rfl, rfl⟩)) ?_
  | refine cd_list (.inr (.inr ⟨12, _, rfl, rfl⟩)) ?_
  | refine cd_list (.inr (.inr ⟨13, _, rfl, rfl⟩)) ?_))
local macro_rules | `(tactic| walk_at "isi") => `(tactic| (first | refine cd_isi (k := true) rfl (by decide +kernel) ?_ | refine cd_isi (k := false) rfl (by decide +kernel) ?_))
local macro_rules | `(tactic| walk_at "size") => `(tactic| (first
  | exact (show 0 ≤ sizeLine by decide) | exact (show 1 ≤ sizeLine by decide) | exact (show 2 ≤ sizeLine by decide) | exact (show 3 ≤ sizeLine by decide) | exact (show 4 ≤ sizeLine by decide) | exact (show 5 ≤ sizeLine by decide) | exact (show 6 ≤ sizeLine by decide) | exact (of_decide_eq_true rfl) | exact (Nat.le_of_ble_eq_true rfl)))
end Sl57
set_option Elab.async false
set_option linter.all false
set_option maxRecDepth 100000
set_option maxHeartbeats 4000000
namespace Sl57
open PySem PySem.Spec PyProof.Rows L2 Dt
set_option hygiene false
local macro_rules | `(tactic| walk_at "op") => `(tactic| (first
  | refine od_add ?_ | refine od_sub ?_ | refine od_lt ?_ | refine od_le ?_ | refine od_gt ?_ | refine od_ge ?_ | refine od_eq ?_ | refine od_ne ?_ | refine od_is ?_ | refine od_isn ?_
  | refine od_eqS ?_ | refine od_neS ?_ | refine od_eqB ?_ | refine od_neB ?_))
local macro_rules | `(tactic| walk_at "dead") => `(tactic| (first
  | (cases hb; done)
  | (exact absurd (show false = true from hb) (by decide))
  | (exact absurd (show true = false from hb) (by decide))
  | (exact absurd hb (by decide))
  | (exfalso; simp only [decide_eq_true_eq, decide_eq_false_iff_not, Bool.not_eq_true', Bool.not_eq_false'] at hb; omega)))
local macro_rules | `(tactic| walk_at "tidy") => `(tactic| (try simp only [decide_eq_true_eq, decide_eq_false_iff_not, Bool.not_eq_true', Bool.not_eq_false'] at hb))
local macro_rules | `(tactic| walk_at "truth") => `(tactic| (first | refine tr_bl ?_ | refine tr_lst ?_ | refine tr_tup ?_ | refine tr_non ?_ | refine tr_int ?_))
local macro_rules | `(tactic| walk_at "ix") => `(tactic| (first
  | refine ix_tup (j := 0) rfl rfl ?_ | refine ix_tup (j := 1) rfl rfl ?_ | refine ix_tup (j := 2) rfl rfl ?_
  | refine ix_lst (j := 0) rfl rfl ?_ | refine ix_lst (j := 1) rfl rfl ?_ | refine ix_lst (j := 2) rfl rfl ?_
  | refine ix_own (k := 0) (j := 0) rfl rfl rfl ?_
  | refine ix_own (k := 0) (j := 1) rfl rfl rfl ?_
  | refine ix_own (k := 0) (j := 2) rfl rfl rfl ?_
  | refine ix_own (k := 1) (j := 0) rfl rfl rfl ?_
  | refine ix_own (k := 1) (j := 1) rfl rfl rfl ?_
  | refine ix_own (k := 1) (j := 2) rfl rfl rfl ?_
  | refine ix_own (k := 2) (j := 0) rfl rfl rfl ?_
  | refine ix_own (k := 2) (j := 1) rfl rfl rfl ?_
  | refine ix_own (k := 2) (j := 2) rfl rfl rfl ?_
  | refine ix_own (k := 3) (j := 0) rfl rfl rfl ?_
  | refine ix_own (k := 3) (j := 1) rfl rfl rfl ?_
  | refine ix_own (k := 3) (j := 2) rfl rfl rfl ?_
  | refine ix_own (k := 4) (j := 0) rfl rfl rfl ?_
  | refine ix_own (k := 4) (j := 1) rfl rfl rfl ?_
  | refine ix_own (k := 4) (j := 2) rfl rfl rfl ?_
  | refine ix_own (k := 5) (j := 0) rfl rfl rfl ?_
  | refine ix_own (k := 5) (j := 1) rfl rfl rfl ?_
  | refine ix_own (k := 5) (j := 2) rfl rfl rfl ?_
  | refine ix_own (k := 6) (j := 0) rfl rfl rfl ?_
  | refine ix_own (k := 6) (j := 1) rfl rfl rfl ?_
  | refine ix_own (k := 6) (j := 2) rfl rfl rfl ?_
  | refine ix_own (k := 7) (j := 0) rfl rfl rfl ?_
  | refine ix_own (k := 7) (j := 1) rfl rfl rfl ?_
  | refine ix_own (k := 7) (j := 2) rfl rfl rfl ?_
  | refine ix_own (k := 8) (j := 0) rfl rfl rfl ?_
  | refine ix_own (k := 8) (j := 1) rfl rfl rfl ?_
  | refine ix_own (k := 8) (j := 2) rfl rfl rfl ?_
  | refine ix_own (k := 9) (j := 0) rfl rfl rfl ?_
  | refine ix_own (k := 9) (j := 1) rfl rfl rfl ?_
  | refine ix_own (k := 9) (j := 2) rfl rfl rfl ?_
  | refine ix_own (k := 10) (j := 0) rfl rfl rfl ?_
  | refine ix_own (k := 10) (j := 1) rfl rfl rfl ?_
  | refine ix_own (k := 10) (j := 2) rfl rfl rfl ?_
  | refine ix_own (k := 11) (j := 0) rfl rfl rfl ?_
  | refine ix_own (k := 11) (j := 1) rfl rfl rfl ?_
  | refine ix_own (k := 11) (j := 2) rfl rfl rfl ?_
  | refine ix_own (k := 12) (j := 0) rfl rfl rfl ?_
  | refine ix_own (k := 12) (j := 1) rfl rfl rfl ?_
  | refine ix_own (k := 12) (j := 2) rfl rfl rfl ?_
  | refine ix_own (k := 13) (j := 0) rfl rfl rfl ?_
  | refine ix_own (k := 13) (j := 1) rfl rfl rfl ?_
  | refine ix_own (k := 13) (j := 2) rfl rfl rfl ?_))
local macro_rules | `(tactic| walk_at "seti") => `(tactic| (first
  | refine ⟨0, 0, _, _, _, rfl, rfl, rfl, rfl, of_decide_eq_true rfl, ?_⟩
  | refine ⟨0, 1, _, _, _, rfl, rfl, rfl, rfl, of_decide_eq_true rfl, ?_⟩
  | refine ⟨0, 2, _, _, _, rfl, rfl, rfl, rfl, of_decide_eq_true rfl, ?_⟩
  | refine ⟨1, 0, _, _, _, rfl, rfl, rfl, rfl, of_decide_eq_true rfl, ?_⟩
  | refine ⟨1, 1, _, _, _, rfl, rfl, rfl, rfl, of_decide_eq_true rfl, ?_⟩
  | refine ⟨1, 2, _, _, _, rfl, rfl, rfl, rfl, of_decide_eq_true rfl, ?_⟩
  | refine ⟨2, 0, _, _, _, rfl, rfl, rfl, rfl, of_decide_eq_true rfl, ?_⟩
  | refine ⟨2, 1, _, _, _, rfl, rfl, rfl, rfl, of_decide_eq_true rfl, ?_⟩
  | refine ⟨2, 2, _, _, _, rfl, rfl, rfl, rfl, of_decide_eq_true rfl, ?_⟩
  | refine ⟨3, 0, _, _, _, rfl, rfl, rfl, rfl, of_decide_eq_true rfl, ?_⟩
  | refine ⟨3, 1, _, _, _, rfl, rfl, rfl, rfl, of_decide_eq_true rfl, ?_⟩
  | refine ⟨3, 2, _, _, _, rfl, rfl, rfl, rfl, of_decide_eq_true rfl, ?_⟩
  | refine ⟨4, 0, _, _, _, rfl, rfl, rfl, rfl, of_decide_eq_true rfl, ?_⟩
  | refine ⟨4, 1, _, _, _, rfl, rfl, rfl, rfl, of_decide_eq_true rfl, ?_⟩
  | refine ⟨4, 2, _, _, _, rfl, rfl, rfl, rfl, of_decide_eq_true rfl, ?_⟩
  | refine ⟨5, 0, _, _, _, rfl, rfl, rfl, rfl, of_decide_eq_true rfl, ?_⟩
  | refine ⟨5, 1, _, _, _, rfl, rfl, rfl, rfl, of_decide_eq_true rfl, ?_⟩
  | refine ⟨5, 2, _, _, _, rfl, rfl, rfl, rfl, of_decide_eq_true rfl, ?_⟩
  | refine ⟨6, 0, _, _, _, rfl, rfl, rfl, rfl, of_decide_eq_true rfl, ?_⟩
  | refine ⟨6, 1, _, _, _, rfl, rfl, rfl, rfl, of_decide_eq_true rfl, ?_⟩
  | refine ⟨6, 2, _, _, _, rfl, rfl, rfl, rfl, of_decide_eq_true rfl, ?_⟩
  | refine ⟨7, 0, _, _, _, rfl, rfl, rfl, rfl, of_decide_eq_true rfl, ?_⟩
  | refine ⟨7, 1, _, _, _, rfl, rfl, rfl, rfl, of_decide_eq_true rfl, ?_⟩
  | refine ⟨7, 2, _, _, _, rfl, rfl, rfl, rfl, of_decide_eq_true rfl, ?_⟩
  | refine ⟨8, 0, _, _, _, rfl, rfl, rfl, rfl, of_decide_eq_true rfl, ?_⟩
  | refine ⟨8, 1, _, _, _, rfl, rfl, rfl, rfl, of_decide_eq_true rfl, ?_⟩
  | refine ⟨8, 2, _, _, _, rfl, rfl, rfl, rfl, of_decide_eq_true rfl, ?_⟩
  | refine ⟨9, 0, _, _, _, rfl, rfl, rfl, rfl, of_decide_eq_true rfl, ?_⟩
  | refine ⟨9, 1, _, _, _, rfl, rfl, rfl, rfl, of_decide_eq_true rfl, ?_⟩
  | refine ⟨9, 2, _, _, _, rfl, rfl, rfl, rfl, of_decide_eq_true rfl, ?_⟩
  | refine ⟨10, 0, _, _, _, rfl, rfl, rfl, rfl, of_decide_eq_true rfl, ?_⟩
  | refine ⟨10, 1, _, _, _, rfl, rfl, rfl, rfl, of_decide_eq_true rfl, ?_⟩
  | refine ⟨10, 2, _, _, _, rfl, rfl, rfl, rfl, of_decide_eq_true rfl, ?_⟩
  | refine ⟨11, 0, _, _, _, rfl, rfl, rfl, rfl, of_decide_eq_true rfl, ?_⟩
  | refine ⟨11, 1, _, _, _, rfl, rfl, rfl, rfl, of_decide_eq_true rfl, ?_⟩
  | refine ⟨11, 2, _, _, _, rfl, rfl, rfl, rfl, of_decide_eq_true rfl, ?_⟩
  | refine ⟨12, 0, _, _, _, rfl, rfl, rfl, rfl, of_decide_eq_true rfl, ?_⟩
  | refine ⟨12, 1, _, _, _, rfl, rfl, rfl, rfl, of_decide_eq_true rfl, ?_⟩
  | refine ⟨12, 2, _, _, _, rfl, rfl, rfl, rfl, of_decide_eq_true rfl, ?_⟩
  | refine ⟨13, 0, _, _, _, rfl, rfl, rfl, rfl, of_decide_eq_true rfl, ?_⟩
  | refine ⟨13, 1, _, _, _, rfl, rfl, rfl, rfl, of_decide_eq_true rfl, ?_⟩
  | refine ⟨13, 2, _, _, _, rfl, rfl, rfl, rfl, of_decide_eq_true rfl, ?_⟩))
local macro_rules | `(tactic| walk_at "lst") => `(tactic| (first
  | refine cd_list (.inr (.inr ⟨0, _, rfl, rfl⟩)) ?_
  | refine cd_list (.inr (.inr ⟨1, _, rfl, rfl⟩)) ?_
  | refine cd_list (.inr (.inr ⟨2, _, rfl, rfl⟩)) ?_
  | refine cd_list (.inr (.inr ⟨3, _, rfl, rfl⟩)) ?_
  | refine cd_list (.inr (.inr ⟨4, _, rfl, rfl⟩)) ?_
  | refine cd_list (.inr (.inr ⟨5, _, rfl, rfl⟩)) ?_
  | refine cd_list (.inr (.inr ⟨6, _, rfl, rfl⟩)) ?_
  | refine cd_list (.inr (.inr ⟨7, _, rfl, rfl⟩)) ?_
  | refine cd_list (.inr (.inr ⟨8, _, rfl, rfl⟩)) ?_
  | refine cd_list (.inr (.inr ⟨9, _, rfl, rfl⟩)) ?_
  | refine cd_list (.inr (.inr ⟨10, _, rfl, rfl⟩)) ?_
  | refine cd_list (.inr (.inr ⟨11, _, rfl, rfl⟩)) ?_
  | refine cd_list (.inr (.inr ⟨12, _, rfl, rfl⟩)) ?_
  | refine cd_list (.inr (.inr ⟨13, _, rfl, rfl⟩)) ?_))
local macro_rules | `(tactic| walk_at "isi") => `(tactic| (first | refine cd_isi (k := true) rfl (by decide +kernel) ?_ | refine cd_isi (k := false) rfl (by decide +kernel) ?_))
local macro_rules | `(tactic| walk_at "size") => `(tactic| (first
  | exact (show 0 ≤ sizeLine by decide) | exact (show 1 ≤ sizeLine by decide) | exact (show 2 ≤ sizeLine by decide) | exact (show 3 ≤ sizeLine by decide) | exact (show 4 ≤ sizeLine by decide) | exact (show 5 ≤ sizeLine by decide) | exact (show 6 ≤ sizeLine by decide) | exact (of_decide_eq_true rfl) | exact (Nat.le_of_ble_eq_true rfl)))
end Sl57
set_option Elab.async false
set_option linter.all false
set_option maxRecDepth 100000
set_option maxHeartbeats 4000000
namespace Sl57
open PySem PySem.Spec PyProof.Rows L2 Dt
set_option hygiene false
local macro_rules | `(tactic| walk_at "op") => `(tactic| (first
  | refine od_add ?_ | refine od_sub ?_ | refine od_lt ?_ | refine od_le ?_ | refine od_gt ?_ | refine od_ge ?_ | refine od_eq ?_ | refine od_ne ?_ | refine od_is ?_ | refine od_isn ?_
  | refine od_eqS ?_ | refine od_neS ?_ | refine od_eqB ?_ | refine od_neB ?_))
local macro_rules | `(tactic| walk_at "dead") => `(tactic| (first
  | (cases hb; done)
  | (exact absurd (show false = true from hb) (by decide))
  | (exact absurd (show true = false from hb) (by decide))
  | (exact absurd hb (by decide))
  | (exfalso; simp only [decide_eq_true_eq, decide_eq_false_iff_not, Bool.not_eq_true', Bool.not_eq_false'] at hb; omega)))
local macro_rules | `(tactic| walk_at "tidy") => `(tactic| (try simp only [decide_eq_true_eq, decide_eq_false_iff_not, Bool.not_eq_true', Bool.not_eq_false'] at hb))
local macro_rules | `(tactic| walk_at "truth") => `(tactic| (first | refine tr_bl ?_ | refine tr_lst ?_ | refine tr_tup ?_ | refine tr_non ?_ | refine tr_int ?_))
local macro_rules | `(tactic| walk_at "ix") => `(tactic| (first
  | refine ix_tup (j := 0) rfl rfl ?_ | refine ix_tup (j := 1) rfl rfl ?_ | refine ix_tup (j := 2) rfl rfl ?_
  | refine ix_lst (j := 0) rfl rfl ?_ | refine ix_lst (j := 1) rfl rfl ?_ | refine ix_lst (j := 2) rfl rfl ?_
  | refine ix_own (k := 0) (j := 0) rfl rfl rfl ?_
  | refine ix_own (k := 0) (j := 1) rfl rfl rfl ?_
  | refine ix_own (k := 0) (j := 2) rfl rfl rfl ?_
  | refine ix_own (k := 1) (j := 0) rfl rfl rfl ?_
  | refine ix_own (k := 1) (j := 1) rfl rfl rfl ?_
  | refine ix_own (k := 1) (j := 2) rfl rfl rfl ?_
  | refine ix_own (k := 2) (j := 0) rfl rfl rfl ?_
  | refine ix_own (k := 2) (j := 1) rfl rfl rfl ?_
  | refine ix_own (k := 2) (j := 2) rfl rfl rfl ?_
  | refine ix_own (k := 3) (j := 0) rfl rfl rfl ?_
  | refine ix_own (k := 3) (j := 1) rfl rfl rfl ?_
  | refine ix_own (k := 3) (j := 2) rfl rfl rfl ?_
  | refine ix_own (k := 4) (j := 0) rfl rfl rfl ?_
  | refine ix_own (k := 4) (j := 1) rfl rfl rfl ?_
  | refine ix_own (k := 4) (j := 2) rfl rfl rfl ?_
  | refine ix_own (k := 5) (j := 0) rfl rfl rfl ?_
  | refine ix_own (k := 5) (j := 1) rfl rfl rfl ?_
  | refine ix_own (k := 5) (j := 2) rfl rfl rfl ?_
  | refine ix_own (k := 6) (j := 0) rfl rfl rfl ?_
  | refine ix_own (k := 6) (j := 1) rfl rfl rfl ?_
  | refine ix_own (k := 6) (j := 2) rfl rfl rfl ?_
  | refine ix_own (k := 7) (j := 0) rfl rfl rfl ?_
  | refine ix_own (k := 7) (j := 1) rfl rfl rfl ?_
  | refine ix_own (k := 7) (j := 2) rfl rfl rfl ?_
  | refine ix_own (k := 8) (j := 0) rfl rfl rfl ?_
  | refine ix_own (k := 8) (j := 1) rfl rfl rfl ?_
  | refine ix_own (k := 8) (j := 2) rfl rfl rfl ?_
  | refine ix_own (k := 9) (j := 0) rfl rfl rfl ?_
  | refine ix_own (k := 9) (j := 1) rfl rfl rfl ?_
  | refine ix_own (k := 9) (j := 2) rfl rfl rfl ?_
  | refine ix_own (k := 10) (j := 0) rfl rfl rfl ?_
  | refine ix_own (k := 10) (j := 1) rfl rfl rfl ?_
  | refine ix_own (k := 10) (j := 2) rfl rfl rfl ?_
  | refine ix_own (k := 11) (j := 0) rfl rfl rfl ?_
  | refine ix_own (k := 11) (j := 1) rfl rfl rfl ?_
  | refine ix_own (k := 11) (j := 2) rfl rfl rfl ?_
  | refine ix_own (k := 12) (j := 0) rfl rfl rfl ?_
  | refine ix_own (k := 12) (j := 1) rfl rfl rfl ?_
  | refine ix_own (k := 12) (j := 2) rfl rfl rfl ?_
  | refine ix_own (k := 13) (j := 0) rfl rfl rfl ?_
  | refine ix_own (k := 13) (j := 1) rfl rfl rfl ?_
  | refine ix_own (k := 13) (j := 2) rfl rfl rfl ?_))
local macro_rules | `(tactic| walk_at "seti") => `(tactic| (first
  | refine ⟨0, 0, _, _, _, rfl, rfl, rfl, rfl, of_decide_eq_true rfl, ?_⟩
  | refine ⟨0, 1, _, _, _, rfl, rfl, rfl, rfl, of_decide_eq_true rfl, ?_⟩
  | refine ⟨0, 2, _, _, _, rfl, rfl, rfl, rfl, of_decide_eq_true rfl, ?_⟩
  | refine ⟨1, 0, _, _, _, rfl, rfl, rfl, rfl, of_decide_eq_true rfl, ?_⟩
  | refine ⟨1, 1, _, _, _, rfl, rfl, rfl, rfl, of_decide_eq_true rfl, ?_⟩
  | refine ⟨1, 2, _, _, _, rfl, rfl, rfl, rfl, of_decide_eq_true rfl, ?_⟩
  | refine ⟨2, 0, _, _, _, rfl, rfl, rfl, rfl, of_decide_eq_true rfl, ?_⟩
  | refine ⟨2, 1, _, _, _, rfl, rfl, rfl, rfl, of_decide_eq_true rfl, ?_⟩
  | refine ⟨2, 2, _, _, _, rfl, rfl, rfl, rfl, of_decide_eq_true rfl, ?_⟩
  | refine ⟨3, 0, _, _, _, rfl, rfl, rfl, rfl, of_decide_eq_true rfl, ?_⟩
  | refine ⟨3, 1, _, _, _, rfl, rfl, rfl, rfl, of_decide_eq_true rfl, ?_⟩
  | refine ⟨3, 2, _, _, _, rfl, rfl, rfl, rfl, of_decide_eq_true rfl, ?_⟩
  | refine ⟨4, 0, _, _, _, rfl, rfl, rfl, rfl, of_decide_eq_true rfl, ?_⟩
  | refine ⟨4, 1, _, _, _, rfl, rfl, rfl, rfl, of_decide_eq_true rfl, ?_⟩
  | refine ⟨4, 2, _, _, _, rfl, rfl, rfl, rfl, of_decide_eq_true rfl, ?_⟩
  | refine ⟨5, 0, _, _, _, rfl, rfl, rfl, rfl, of_decide_eq_true rfl, ?_⟩
  | refine ⟨5, 1, _, _, _, rfl, rfl, rfl, rfl, of_decide_eq_true rfl, ?_⟩
  | refine ⟨5, 2, _, _, _, rfl, rfl, rfl, rfl, of_decide_eq_true rfl, ?_⟩
  | refine ⟨6, 0, _, _, _, rfl, rfl, rfl, rfl, of_decide_eq_true rfl, ?_⟩
  | refine ⟨6, 1, _, _, _, rfl, rfl, rfl, rfl, of_decide_eq_true rfl, ?_⟩
  | refine ⟨6, 2, _, _, _, rfl, rfl, rfl, rfl, of_decide_eq_true rfl, ?_⟩
  | refine ⟨7, 0, _, _, _, rfl, rfl, rfl, rfl, of_decide_eq_true rfl, ?_⟩
  | refine ⟨7, 1, _, _, _, rfl, rfl, rfl, rfl, of_decide_eq_true rfl, ?_⟩
  | refine ⟨7, 2, _, _, _, rfl, rfl, rfl, rfl, of_decide_eq_true rfl, ?_⟩
  | refine ⟨8, 0, _, _, _, rfl, rfl, rfl, rfl, of_decide_eq_true rfl, ?_⟩
  | refine ⟨8, 1, _, _, _, rfl, rfl, rfl, rfl, of_decide_eq_true rfl, ?_⟩
  | refine ⟨8, 2, _, _, _, rfl, rfl, rfl, rfl, of_decide_eq_true rfl, ?_⟩
  | refine ⟨9, 0, _, _, _, rfl, rfl, rfl, rfl, of_decide_eq_true rfl, ?_⟩
  | refine ⟨9, 1, _, _, _, rfl, rfl, rfl, rfl, of_decide_eq_true rfl, ?_⟩
  | refine ⟨9, 2, _, _, _, rfl, rfl, rfl, rfl, of_decide_eq_true rfl, ?_⟩
  | refine ⟨10, 0, _, _, _, rfl, rfl, rfl, rfl, of_decide_eq_true rfl, ?_⟩
  | refine ⟨10, 1, _, _, _, rfl, rfl, rfl, rfl, of_decide_eq_true rfl, ?_⟩
  | refine ⟨10, 2, _, _, _, rfl, rfl, rfl, rfl, of_decide_eq_true rfl, ?_⟩
  | refine ⟨11, 0, _, _, _, rfl, rfl, rfl, rfl, of_decide_eq_true rfl, ?_⟩
  | refine ⟨11, 1, _, _, _, rfl, rfl, rfl, rfl, of_decide_eq_true rfl, ?_⟩
  | refine ⟨11, 2, _, _, _, rfl, rfl, rfl, rfl, of_decide_eq_true rfl, ?_⟩
  | refine ⟨12, 0, _, _, _, rfl, rfl, rfl, rfl, of_decide_eq_true rfl, ?_⟩
  | refine ⟨12, 1, _, _, _, rfl, rfl, rfl, rfl, of_decide_eq_true rfl, ?_⟩
  | refine ⟨12, 2, _, _, _, rfl, rfl, rfl, rfl, of_decide_eq_true rfl, ?_⟩
  | refine ⟨13, 0, _, _, _, rfl, rfl, rfl, rfl, of_decide_eq_true rfl, ?_⟩
  | refine ⟨13, 1, _, _, _, rfl, rfl, rfl, rfl, of_decide_eq_true rfl, ?_⟩
  | refine ⟨13, 2, _, _, _, rfl, rfl, rfl, rfl, of_decide_eq_true rfl, ?_⟩))
local macro_rules | `(tactic| walk_at "lst") => `(tactic| (first
  | refine cd_list (.inr (.inr ⟨0, _, rfl, rfl⟩)) ?_
  | refine cd_list (.inr (.inr ⟨1, _, rfl, rfl⟩)) ?_
  | refine cd_list (.inr (.inr ⟨2, _, rfl, rfl⟩)) ?_
  | refine cd_list (.inr (.inr ⟨3, _, rfl, rfl⟩)) ?_
  | refine cd_list (.inr (.inr ⟨4, _, rfl, rfl⟩)) ?_
  | refine cd_list (.inr (.inr ⟨5, _, rfl, rfl⟩)) ?_
  | refine cd_list (.inr (.inr ⟨6, _, rfl, rfl⟩)) ?_
  | refine cd_list (.inr (.inr ⟨7, _, rfl, rfl⟩)) ?_
  | refine cd_list (.inr (.inr ⟨8, _, rfl, rfl⟩)) ?_
  | refine cd_list (.inr (.inr ⟨9, _, rfl, rfl⟩)) ?_
  | refine cd_list (.inr (.inr ⟨10, _, rfl, rfl⟩)) ?_
  | refine cd_list (.inr (.inr ⟨11, _, rfl, rfl⟩)) ?_
  | refine cd_list (.inr (.inr ⟨12, _, rfl, rfl⟩)) ?_
  | refine cd_list (.inr (.inr ⟨13, _, rfl, rfl⟩)) ?_))
local macro_rules | `(tactic| walk_at "isi") => `(tactic| (first | refine cd_isi (k := true) rfl (by decide +kernel) ?_ | refine cd_isi (k := false) rfl (by decide +kernel) ?_))
local macro_rules | `(tactic| walk_at "size") => `(tactic| (first
  | exact (show 0 ≤ sizeLine by decide) | exact (show 1 ≤ sizeLine by decide) | exact (show 2 ≤ sizeLine by decide) | exact (show 3 ≤ sizeLine by decide) | exact (show 4 ≤ sizeLine by decide) | exact (show 5 ≤ sizeLine by decide) | exact (show 6 ≤ sizeLine by decide) | exact (of_decide_eq_true rfl) | exact (Nat.le_of_ble_eq_true rfl)))
end Sl57
set_option Elab.async false
set_option linter.all false
set_option maxRecDepth 100000
set_option maxHeartbeats 0
open PySem PySem.W PySem.Calls PyProof.Rows
set_option Elab.async false
set_option linter.all false
set_option maxRecDepth 100000
set_option maxHeartbeats 2000000
namespace Dt
open PySem PySem.Spec PyProof.Rows L2
section
variable {K : PySem.W.Frag} {P P' : Hp}
theorem IsDs.append {xs ys : List V} {ds es : List D} (h : IsDs K P xs ds) (t : IsDs K P ys es) : IsDs K P (xs ++ ys) (ds ++ es) := by
  refine ⟨by rw [List.length_append, List.length_append, h.1, t.1], fun i y e a b => ?_⟩
  have hl := h.1
  by_cases hi : i < xs.length
  · rw [List.getElem?_append_left hi] at a
    rw [List.getElem?_append_left (by omega)] at b
    exact h.2 i y e a b
  · rw [List.getElem?_append_right (by omega)] at a
    rw [List.getElem?_append_right (by omega)] at b
    rw [hl] at a
    exact t.2 _ y e a b
theorem IsDs.getV {xs : List V} {ds : List D} {i : Nat} {x : V} (h : IsDs K P xs ds) (e : xs[i]? = some x) : ∃ d, ds[i]? = some d ∧ IsD K P x d := by
  obtain ⟨hl, hi⟩ := h
  have hb : i < ds.length := by rw [← hl]; exact (List.getElem?_eq_some_iff.mp e).1
  exact ⟨ds[i], List.getElem?_eq_getElem hb, hi i x _ e (List.getElem?_eq_getElem hb)⟩
theorem IsDs.ints (ns : List Int) : IsDs K P (ns.map V.int) (ns.map D.int) := by
  refine ⟨by rw [List.length_map, List.length_map], fun i x d a b => ?_⟩
  rw [List.getElem?_map] at a b
  cases e : ns[i]? with
  | none => rw [e] at a; cases a
  | some n =>
    rw [e] at a b
    cases a
    cases b
    exact .int
/-- an attribute stored, by data -/
def putD (f : Str) (d : D) : List (Str × D) → List (Str × D)
  | [] => [(f, d)]
  | (g, e) :: r => if g = f then (g, d) :: r else (g, e) :: putD f d r
theorem putF_cons (f g : Str) (v x : V) (r : List (Str × V)) : putF f v ((g, x) :: r) = if g = f then (g, v) :: r else (g, x) :: putF f v r := by
  first
    | rfl
    | (unfold putF; split <;> rfl)
    | (by_cases h : g = f
       · subst h; simp [putF]
       · simp [putF, h])
theorem IsFs.put {f : Str} {d : D} {v : V} (hv : IsD K P v d) : ∀ {xs : List (Str × V)} {ds : List (Str × D)}, IsFs K P xs ds → IsFs K P (putF f v xs) (putD f d ds)
  | xs, [], h => by
    rw [h.unnil]
    exact .cons hv .nil
  | xs, (g, d') :: ds, h => by
    obtain ⟨x, r, rfl, hx, hr⟩ := h.uncons
    rw [putF_cons]
    unfold putD
    by_cases hg : g = f
    · rw [if_pos hg, if_pos hg]
      exact .cons hv hr
    · rw [if_neg hg, if_neg hg]
      exact .cons hx (IsFs.put hv hr)
end
section
variable {K : PySem.W.Frag} {M M' : Mem} {P P' H H' : Hp} {Γ : Sl} {σ : L2.St}
theorem SOk.set {i : Nat} {v : V} {d : D} (h : SOk K Γ P σ) (hv : IsD K P v d) : SOk K (Γ.set i (some d)) P (σ.set i (some v)) := by
  refine ⟨by rw [List.length_set, List.length_set]; exact h.len, fun j e q => ?_⟩
  by_cases hj : i = j
  · subst hj
    have hb : i < Γ.length := by
      have := (List.getElem?_eq_some_iff.mp q).1
      rwa [List.length_set] at this
    rw [List.getElem?_set_self hb] at q
    cases q
    exact ⟨v, by rw [List.getElem?_set_self (by rw [← h.len]; exact hb)], hv⟩
  · rw [List.getElem?_set_ne hj] at q
    obtain ⟨w, a, b⟩ := h.at_ j e q
    exact ⟨w, by rw [List.getElem?_set_ne hj]; exact a, b⟩
/-- slots forgotten -/
theorem SOk.weak {Γ' : Sl} (h : SOk K Γ P σ) (hl : Γ'.length = Γ.length) (hi : ∀ (i : Nat) (d : D), Γ'[i]? = some (some d) → Γ[i]? = some (some d)) : SOk K Γ' P σ := ⟨hl.trans h.len, fun i d q => h.at_ i d (hi i d q)⟩
/-- an object of one's own changes -/
theorem MOk.put {k : Nat} {a : Addr} {m m' : MO} {o : HO} (h : MOk K M P H) (e : M[k]? = some (a, m)) (hm : MHas K P (upd H a o) a m') : MOk K (M.set k (a, m')) P (upd H a o) := by
  obtain ⟨hp, _⟩ := h.get e
  have hk : k < M.length := (List.getElem?_eq_some_iff.mp e).1
  refine ⟨fun b u q => ?_, ?_, fun b u q => ?_⟩
  · rw [upd_ne (ne_of_none q hp)]
    exact h.ex _ _ q
  · have e2 : (M.set k (a, m')).map (·.1) = M.map (·.1) := by
      rw [List.map_set]
      refine List.ext_getElem? fun i => ?_
      by_cases hi : k = i
      · subst hi
        rw [List.getElem?_set_self (by rw [List.length_map]; exact hk), List.getElem?_map, e]
        rfl
      · rw [List.getElem?_set_ne hi]
    rw [e2]
    exact h.nd
  · obtain ⟨j, hj⟩ := List.getElem?_of_mem q
    by_cases hi : k = j
    · subst hi
      rw [List.getElem?_set_self hk] at hj
      cases hj
      exact ⟨hp, hm⟩
    · rw [List.getElem?_set_ne hi] at hj
      obtain ⟨h1, h2⟩ := h.get hj
      have hb : b ≠ a := fun z => by
        subst z
        have a1 : (M.map (·.1))[k]? = some b := by rw [List.getElem?_map, e]; rfl
        have a2 : (M.map (·.1))[j]? = some b := by rw [List.getElem?_map, hj]; rfl
        obtain ⟨b1, c1⟩ := List.getElem?_eq_some_iff.mp a1
        obtain ⟨b2, c2⟩ := List.getElem?_eq_some_iff.mp a2
        exact hi ((List.getElem_inj h.nd).mp (c1.trans c2.symm))
      exact ⟨h1, h2.mono (Same.refl P) (by rw [upd_ne hb])⟩
/-- some of one's own objects are given up -/
theorem MOk.sub (h : MOk K M P H) (hs : M'.Sublist M) : MOk K M' P H := ⟨h.ex, h.nd.sublist (hs.map _), fun a o q => h.at_ a o (hs.subset q)⟩
theorem MOk.tail {x : Addr × MO} (h : MOk K (x :: M) P H) : MOk K M P H := h.sub (List.sublist_cons_self _ _)
/-- an object of one's own changes no more -/
theorem MOk.freeze {a : Addr} {m : MO} {o : HO} (h : MOk K ((a, m) :: M) P H) (ho : H a = some o) : MOk K M (upd P a o) H ∧ Ex P (upd P a o) := by
  obtain ⟨hp, _⟩ := h.at_ a m List.mem_cons_self
  have e1 : Ex P (upd P a o) := fun b u q => by
    rw [upd_ne (ne_of_none q hp)]
    exact q
  refine ⟨⟨fun b u q => ?_, h.tail.nd, fun b u q => ?_⟩, e1⟩
  · by_cases hb : b = a
    · subst hb
      rw [upd_same] at q
      rw [ho]
      exact q
    · rw [upd_ne hb] at q
      exact h.ex _ _ q
  · obtain ⟨h1, h2⟩ := h.tail.at_ b u q
    have hb : b ≠ a := fun z => by
      subst z
      have hn := h.nd
      rw [List.map_cons, List.nodup_cons] at hn
      exact hn.1 (List.mem_map.mpr ⟨(b, u), q, rfl⟩)
    exact ⟨by rw [upd_ne hb]; exact h1, h2.mono e1 rfl⟩
end
end Dt
set_option Elab.async false
set_option linter.all false
set_option maxRecDepth 100000
set_option maxHeartbeats 2000000
namespace Dt
open PySem PySem.Spec PyProof.Rows L2
section
variable {X : Cx} {e : Expr} {es : List Expr} {st : Stmt} {sts : List Stmt} {σ : L2.St} {H : Hp}
theorem pe_wp : PE X e (wpT X e) := ⟨fun pins s _ _ _ I h => h pins s I⟩
theorem pa_wp : PA X es (wpA X es) := ⟨fun pos pins s _ _ _ I h => h pos pins s I⟩
theorem pt_wp : PT X e (wpB X e) := ⟨fun pins s _ _ _ I h => h pins s I⟩
theorem pw_wp : PW X e (wpW X e) := ⟨fun wh pins s _ _ _ I h => h wh pins s I⟩
theorem ps_wp : PS X st (wpS X st) := ⟨fun pins s _ _ _ I h => h pins s I⟩
theorem pss_wp : PSs X sts (wpSs X sts) := ⟨fun pins s _ _ _ I h => h pins s I⟩
theorem op_wp {f : Value → Value → Sem Value} : OpR X f (opT X f) := fun pins s σ H x y v u Q I rx ry h => h pins σ s v u I rx ry
theorem un_wp {f : Value → Sem Value} : UnR X f (unT X f) := fun pins s σ H x v Q I rx h => h pins σ s v I rx
theorem ca_wp {f : Value} : CallR X f (caT X f) := fun pins s σ H xs us Q I rx h => h pins σ s us I rx
theorem wpT_of {t : TE} (h : PE X e t) {Q : VK} (q : t σ H Q) : wpT X e σ H Q := fun pins s I => h.run pins s σ H Q I q
theorem wpA_of {t : TA} (h : PA X es t) {Q : List V → Hp → Prop} (q : t σ H Q) : wpA X es σ H Q := fun pos pins s I => h.run pos pins s σ H Q I q
theorem wpB_of {t : TT} (h : PT X e t) {Q : Bool → Hp → Prop} (q : t σ H Q) : wpB X e σ H Q := fun pins s I => h.run pins s σ H Q I q
theorem wpW_of {t : TT} (h : PW X e t) {Q : Bool → Hp → Prop} (q : t σ H Q) : wpW X e σ H Q := fun wh pins s I => h.run wh pins s σ H Q I q
theorem wpS_of {t : TS} (h : PS X st t) {D : Ends} (q : t D σ H) : wpS X st D σ H := fun pins s I => h.run pins s σ H D I q
theorem wpSs_of {t : TS} (h : PSs X sts t) {D : Ends} (q : t D σ H) : wpSs X sts D σ H := fun pins s I => h.run pins s σ H D I q
theorem unT_of {f : Value → Sem Value} {r : V → Hp → VK → Prop} (h : UnR X f r) {x : V} {Q : VK} (q : r x H Q) : unT X f x H Q := fun pins σ s v I rx => h pins s σ H x v Q I rx q
end
def FinA (K : PySem.W.Frag) (P : Hp) (Φ : List D → Mem → Prop) : List V → Hp → Prop := fun vs H2 => ∃ ds M' P2, Φ ds M' ∧ Ex P P2 ∧ MOk K M' P2 H2 ∧ IsDs K P2 vs ds
section
variable {K : PySem.W.Frag} {P P' : Hp}
theorem Fin.up {Φ : VP} {v : V} {H : Hp} (e : Ex P P') (h : Fin K P' Φ v H) : Fin K P Φ v H := let ⟨d, M, P2, a, b, c, f⟩ := h; ⟨d, M, P2, a, e.trans b, c, f⟩
theorem FinA.up {Φ : List D → Mem → Prop} {v : List V} {H : Hp} (e : Ex P P') (h : FinA K P' Φ v H) : FinA K P Φ v H := let ⟨d, M, P2, a, b, c, f⟩ := h; ⟨d, M, P2, a, e.trans b, c, f⟩
theorem FinB.up {Φ : Bool → Mem → Prop} {v : Bool} {H : Hp} (e : Ex P P') (h : FinB K P' Φ v H) : FinB K P Φ v H := let ⟨M, P2, a, b, c⟩ := h; ⟨M, P2, a, e.trans b, c⟩
theorem FinS.up {Φ : Sl → Mem → Prop} {σ : L2.St} {H : Hp} (e : Ex P P') (h : FinS K P' Φ σ H) : FinS K P Φ σ H := let ⟨Γ, M, P2, a, b, c, f⟩ := h; ⟨Γ, M, P2, a, e.trans b, c, f⟩
theorem Po.up (Ψ : Po) (e : Ex P P') : EndsLe (Ψ.ends K P') (Ψ.ends K P) := ⟨fun _ _ h => h.up e, fun _ _ h => h.up e, fun _ _ h => h.up e, fun _ _ h => h.up e⟩
end
def WA (X : Cx) (Γ : Sl) (M : Mem) (es : List Expr) (Φ : List D → Mem → Prop) : Prop := ∀ P σ H, SOk X.K Γ P σ → MOk X.K M P H → wpA X es σ H (FinA X.K P Φ)
def WW (X : Cx) (Γ : Sl) (M : Mem) (e : Expr) (Φ : Bool → Mem → Prop) : Prop := ∀ P σ H, SOk X.K Γ P σ → MOk X.K M P H → wpW X e σ H (FinB X.K P Φ)
def UnD (X : Cx) (f : Value → Sem Value) (x : D) (M : Mem) (Φ : VP) : Prop := ∀ P H a, MOk X.K M P H → IsD X.K P a x → unT X f a H (Fin X.K P Φ)
section
variable {X : Cx} {Γ : Sl} {M : Mem} {Φ Φ' : VP} {Ψ : Po} {e a b c o : Expr} {es rest : List Expr} {pos p pos' : Pos} {st : Stmt} {sts : List Stmt} {B B' : Bool → Mem → Prop}
theorem we_var {i : Nat} {x : Str} {d : D} (hN : X.N[i]? = some x) (hv : Vis X.env.scope x) (hd : (x == ("__debug__" : Str)) = false) (hcd : (x == ("__classdict__" : Str)) = false) (hΓ : Γ[i]? = some (some d)) (h : Φ d M) : WE X Γ M (.Name x pos) Φ :=
  fun P σ H s m => by
    obtain ⟨v, h1, h2⟩ := s.at_ i d hΓ
    exact wpT_of (pe_var hN hv hd hcd) ⟨v, h1, .one h m h2⟩
theorem we_int {i j} (h : Φ (.int i) M) : WE X Γ M (.Constant (.int i) j pos) Φ := fun P σ H s m => wpT_of pe_int (.one h m .int)
theorem we_bl {b j} (h : Φ (.bl b) M) : WE X Γ M (.Constant (.bool b) j pos) Φ := fun P σ H s m => wpT_of pe_bl (.one h m .bl)
theorem we_non {j} (h : Φ .non M) : WE X Γ M (.Constant .none j pos) Φ := fun P σ H s m => wpT_of pe_non (.one h m .non)
theorem we_str {x j} (h : Φ (.str x) M) : WE X Γ M (.Constant (.str x) j pos) Φ := fun P σ H s m => wpT_of pe_str (.one h m .str)
theorem we_glob {x : Str} {a : Addr} (hg : Gl X x) (hm : X.mg x = some (.ref a)) (hd : (x == ("__debug__" : Str)) = false) (h : Φ (.adr a) M) : WE X Γ M (.Name x pos) Φ := fun P σ H s m => wpT_of (pe_glob (v := .ref a) hg hm rfl hd) (.one h m .adr)
theorem we_bty {x : Str} {n : String} (hg : Gl X x) (hm : X.mg x = none) (hv : bootBuiltins x = some (.type n)) (hn : x ≠ "__name__") (hd : (x == ("__debug__" : Str)) = false) (h : Φ (.ty n) M) : WE X Γ M (.Name x pos) Φ := fun P σ H s m => wpT_of (pe_bltn (v := .ty n) hg hm hv rfl hn hd) (.one h m .ty)
theorem wa_nil {Φ : List D → Mem → Prop} (h : Φ [] M) : WA X Γ M [] Φ := fun P σ H s m => wpA_of pa_nil ⟨[], M, P, h, Same.refl P, m, .nil⟩
theorem wa_cons {Φ : List D → Mem → Prop} (h : WE X Γ M e fun d M1 => WA X Γ M1 es fun ds M2 => Φ (d :: ds) M2) (hs : starEach (e :: es) X.env = (false, eval e X.env) :: starEach es X.env := by rfl) : WA X Γ M (e :: es) Φ := fun P σ H s m =>
  wpA_of (pa_cons pe_wp pa_wp hs) ((h P σ H s m).mono fun v H1 ⟨d, M1, P1, q, e1, m1, i1⟩ => (q P1 σ H1 (s.mono e1) m1).mono fun vs H2 ⟨ds, M2, P2, q2, e2, m2, i2⟩ => ⟨d :: ds, M2, P2, q2, e1.trans e2, m2, .cons (i1.mono e2) i2⟩)
theorem we_bin {op : Operator} (h : WE X Γ M a fun x M1 => WE X Γ M1 b fun y M2 => OpD X (binaryOp op) x y M2 Φ) : WE X Γ M (.BinOp a op b pos) Φ := fun P σ H s m =>
  wpT_of (pe_op op_wp pe_wp pe_wp) ((h P σ H s m).mono fun v H1 ⟨d, M1, P1, q, e1, m1, i1⟩ => (q P1 σ H1 (s.mono e1) m1).mono fun u H2 ⟨d2, M2, P2, q2, e2, m2, i2⟩ => (q2 P2 H2 v u m2 (i1.mono e2) i2).mono fun _ _ z => z.up (e1.trans e2))
theorem we_cmp {op : CmpOp} (h : WE X Γ M a fun x M1 => WE X Γ M1 b fun y M2 => OpD X (compareOp op) x y M2 Φ) (hm : behindInMarks op b = false) : WE X Γ M (.Compare a [op] [b] pos) Φ := fun P σ H s m =>
  wpT_of (pe_cmpR op_wp pe_wp pe_wp hm) ((h P σ H s m).mono fun v H1 ⟨d, M1, P1, q, e1, m1, i1⟩ => (q P1 σ H1 (s.mono e1) m1).mono fun u H2 ⟨d2, M2, P2, q2, e2, m2, i2⟩ => (q2 P2 H2 v u m2 (i1.mono e2) i2).mono fun _ _ z => z.up (e1.trans e2))
theorem we_un {op : UnaryOp} (h : WE X Γ M a fun x M1 => UnD X (unaryOp op) x M1 Φ) : WE X Γ M (.UnaryOp op a pos) Φ := fun P σ H s m =>
  wpT_of (pe_un un_wp pe_wp) ((h P σ H s m).mono fun v H1 ⟨d, M1, P1, q, e1, m1, i1⟩ => (q P1 H1 v m1 i1).mono fun _ _ z => z.up e1)
theorem wt_val (h : WE X Γ M e fun d M1 => TrD X d M1 B) (he : ∀ whole, isTrue e X.env whole = (do let v ← whole; standAt e.pos; holding [v] (truthy v))) : WT X Γ M e B := fun P σ H s m => fun pins sh I =>
  isTrue_plain (thn (h P σ H s m pins sh I) fun v s1 ⟨x, H1, I1, r1, d, M1, P1, q, e1, m1, i1⟩ => thn (q P1 H1 x m1 i1 pins σ s1 v I1 r1) fun b s2 ⟨H2, I2, z⟩ => ⟨H2, I2, z.up e1⟩) (he _)
theorem wt_cmp {op : CmpOp} (h : WE X Γ M a fun x M1 => WE X Γ M1 b fun y M2 => OpD X (compareOp op) x y M2 fun d M3 => ∃ k, d = .bl k ∧ B k M3) (hm : behindInMarks op b = false) : WT X Γ M (.Compare a [op] [b] pos) B := fun P σ H s m =>
  wpB_of (pt_cmpR op_wp pe_wp pe_wp hm) ((h P σ H s m).mono fun v H1 ⟨d, M1, P1, q, e1, m1, i1⟩ => (q P1 σ H1 (s.mono e1) m1).mono fun u H2 ⟨d2, M2, P2, q2, e2, m2, i2⟩ => (q2 P2 H2 v u m2 (i1.mono e2) i2).mono fun w H3 ⟨d3, M3, P3, ⟨k, ek, q3⟩, e3, m3, i3⟩ => by
    subst ek
    cases i3
    exact ⟨k, rfl, M3, P3, q3, (e1.trans e2).trans e3, m3⟩)
theorem wt_not (h : WT X Γ M a fun k M1 => B (!k) M1) : WT X Γ M (.UnaryOp .Not a pos) B := fun P σ H s m =>
  wpB_of (pt_not pt_wp) ((h P σ H s m).mono fun k H1 z => z)
theorem wt_bool {op} {l : List Expr} (h : WW X Γ M (.BoolOp op l pos) B) : WT X Γ M (.BoolOp op l pos) B := fun P σ H s m => wpB_of pw_wp.pt (h P σ H s m)
theorem ww_and1 (h : WT X Γ M a B) : WW X Γ M (.BoolOp .And [a] pos) B := fun P σ H s m => wpW_of (pw_and1 pt_wp) (h P σ H s m)
theorem ww_or1 (h : WT X Γ M a B) : WW X Γ M (.BoolOp .Or [a] pos) B := fun P σ H s m => wpW_of (pw_or1 pt_wp) (h P σ H s m)
theorem ww_and (h : WT X Γ M a fun k M1 => (k = true → WW X Γ M1 (.BoolOp .And (b :: rest) pos) B) ∧ (k = false → B false M1)) : WW X Γ M (.BoolOp .And (a :: b :: rest) pos) B := fun P σ H s m =>
  wpW_of (pw_and pt_wp pw_wp) ((h P σ H s m).mono fun k H1 ⟨M1, P1, q, e1, m1⟩ => by
    cases k with
    | true => exact iteT ((q.1 rfl P1 σ H1 (s.mono e1) m1).mono fun _ _ z => z.up e1)
    | false => exact iteF ⟨M1, P1, q.2 rfl, e1, m1⟩)
theorem ww_or (h : WT X Γ M a fun k M1 => (k = true → B true M1) ∧ (k = false → WW X Γ M1 (.BoolOp .Or (b :: rest) pos) B)) : WW X Γ M (.BoolOp .Or (a :: b :: rest) pos) B := fun P σ H s m =>
  wpW_of (pw_or pt_wp pw_wp) ((h P σ H s m).mono fun k H1 ⟨M1, P1, q, e1, m1⟩ => by
    cases k with
    | true => exact iteT ⟨M1, P1, q.1 rfl, e1, m1⟩
    | false => exact iteF ((q.2 rfl P1 σ H1 (s.mono e1) m1).mono fun _ _ z => z.up e1))
/-- a if t else b -/
theorem we_if (h : WT X Γ M c fun k M1 => (k = true → WE X Γ M1 a Φ) ∧ (k = false → WE X Γ M1 b Φ)) : WE X Γ M (.IfExp c a b pos) Φ := fun P σ H s m =>
  wpT_of (pe_ifExp pt_wp pe_wp pe_wp) ((h P σ H s m).mono fun k H1 ⟨M1, P1, q, e1, m1⟩ => by
    cases k with
    | true => exact iteT ((q.1 rfl P1 σ H1 (s.mono e1) m1).mono fun _ _ z => z.up e1)
    | false => exact iteF ((q.2 rfl P1 σ H1 (s.mono e1) m1).mono fun _ _ z => z.up e1))
/-- x and y, x or y of truth values -/
theorem we_one {op} (h : WE X Γ M a Φ) : WE X Γ M (.BoolOp op [a] pos) Φ := fun P σ H s m => wpT_of (pe_one pe_wp) (h P σ H s m)
theorem we_and (h : WE X Γ M a fun d M1 => ∃ k, d = .bl k ∧ (k = true → WE X Γ M1 (.BoolOp .And (b :: rest) pos) Φ) ∧ (k = false → Φ (.bl false) M1)) : WE X Γ M (.BoolOp .And (a :: b :: rest) pos) Φ := fun P σ H s m =>
  wpT_of (pe_and pe_wp pe_wp) ((h P σ H s m).mono fun v H1 ⟨d, M1, P1, ⟨k, ek, qt, qf⟩, e1, m1, i1⟩ => by
    subst ek
    cases i1
    refine ⟨k, rfl, ?_⟩
    cases k with
    | true => exact iteT ((qt rfl P1 σ H1 (s.mono e1) m1).mono fun _ _ z => z.up e1)
    | false => exact iteF ⟨_, M1, P1, qf rfl, e1, m1, .bl⟩)
theorem we_tup {x1} (h : WA X Γ M es fun ds M1 => ds.length ≤ sizeLine ∧ Φ (.tup ds) M1) : WE X Γ M (.Tuple es x1 pos) Φ := fun P σ H s m =>
  wpT_of (pe_tup pa_wp) ((h P σ H s m).mono fun vs H1 ⟨ds, M1, P1, ⟨hl, q⟩, e1, m1, i1⟩ => ⟨by rw [i1.1]; exact hl, fun p hp => by
    obtain ⟨m2, e2⟩ := m1.push (o := .tup vs) hp
    exact ⟨_, M1, _, q, e1.trans e2, m2, .tup (SqT.of upd_same) i1.1 fun i x d a b => (i1.2 i x d a b).mono e2⟩⟩)
theorem we_lst (h : WA X Γ M es fun ds M1 => ds.length ≤ sizeLine ∧ Φ (.lst ds) M1) : WE X Γ M (.List es pos) Φ := fun P σ H s m =>
  wpT_of (pe_lst pa_wp) ((h P σ H s m).mono fun vs H1 ⟨ds, M1, P1, ⟨hl, q⟩, e1, m1, i1⟩ => ⟨by rw [i1.1]; exact hl, fun p hp => by
    obtain ⟨m2, e2⟩ := m1.push (o := .lst vs) hp
    exact ⟨_, M1, _, q, e1.trans e2, m2, .lst (SqL.of upd_same) i1.1 fun i x d a b => (i1.2 i x d a b).mono e2⟩⟩)
/-- a list of one's own -/
theorem we_lstO (h : WA X Γ M es fun ds M1 => ds.length ≤ sizeLine ∧ ∀ l, Φ (.adr l) ((l, .lst ds) :: M1)) : WE X Γ M (.List es pos) Φ := fun P σ H s m =>
  wpT_of (pe_lst pa_wp) ((h P σ H s m).mono fun vs H1 ⟨ds, M1, P1, ⟨hl, q⟩, e1, m1, i1⟩ => ⟨by rw [i1.1]; exact hl, fun p hp =>
    ⟨_, _, P1, q p, e1, m1.own hp ⟨vs, upd_same, i1⟩, .adr⟩⟩)
theorem we_callB {x : Str} {id : String} (hg : Gl X x) (hm : X.mg x = none) (hv : bootBuiltins x = some (.builtin id)) (hn : x ≠ "__name__") (hdb : (x == ("__debug__" : Str)) = false) (h : WA X Γ M (e :: es) fun ds M1 => CaD X (.builtin id) ds M1 Φ)
    (hq : PE X (.Call (.Name x p) (e :: es) [] pos) (tCB (caT X (.builtin id)) (wpA X (e :: es))) := by exact pe_callB ca_wp (by rfl) (by assumption) (by assumption) pa_wp) : WE X Γ M (.Call (.Name x p) (e :: es) [] pos) Φ := fun P σ H s m =>
  wpT_of hq ((h P σ H s m).mono fun vs H1 ⟨ds, M1, P1, q, e1, m1, i1⟩ => (q P1 H1 vs m1 i1).mono fun _ _ z => z.up e1)
theorem we_callTy {x : Str} {T : String} (hg : Gl X x) (hm : X.mg x = none) (hv : bootBuiltins x = some (.type T)) (hn : x ≠ "__name__") (hdb : (x == ("__debug__" : Str)) = false) (h : WA X Γ M (e :: es) fun ds M1 => CaD X (.type T) ds M1 Φ)
    (hq : PE X (.Call (.Name x p) (e :: es) [] pos) (tCB (caT X (.type T)) (wpA X (e :: es))) := by exact pe_callTy ca_wp (by rfl) (by assumption) (by assumption) pa_wp) : WE X Γ M (.Call (.Name x p) (e :: es) [] pos) Φ := fun P σ H s m =>
  wpT_of hq ((h P σ H s m).mono fun vs H1 ⟨ds, M1, P1, q, e1, m1, i1⟩ => (q P1 H1 vs m1 i1).mono fun _ _ z => z.up e1)
theorem ws_nil (h : Ψ.nx Γ M) : WS X Γ M [] Ψ := fun P σ H s m => wpSs_of pss_nil ⟨Γ, M, P, h, Same.refl P, s, m⟩
theorem ws_cons (h : W1 X Γ M st { Ψ with nx := fun Γ' M' => WS X Γ' M' sts Ψ }) : WS X Γ M (st :: sts) Ψ := fun P σ H s m =>
  wpSs_of (pss_cons ps_wp pss_wp) ((h P σ H s m).mono ⟨fun σ' H' ⟨Γ', M', P', q, e, s', m'⟩ => (q P' σ' H' s' m').mono (Ψ.up e), fun _ _ z => z, fun _ _ z => z, fun _ _ z => z⟩)
/-- what is shown of the state is weakened ahead of a block -/
theorem ws_weak {Γ' : Sl} {M' : Mem} (h : WS X Γ' M' sts Ψ) (hl : Γ'.length = Γ.length) (hi : ∀ (i : Nat) (d : D), Γ'[i]? = some (some d) → Γ[i]? = some (some d)) (hm : M'.Sublist M) : WS X Γ M sts Ψ := fun P σ H s m => h P σ H (s.weak hl hi) (m.sub hm)
/-- a list of one's own, in a slot, changes no more -/
theorem ws_freeze {i : Nat} {l : Addr} {ds : List D} (hi : Γ[i]? = some (some (.adr l))) (h : WS X (Γ.set i (some (.lst ds))) M sts Ψ) : WS X Γ ((l, .lst ds) :: M) sts Ψ := fun P σ H s m => by
  obtain ⟨hp, xs, hx, hd⟩ := m.at_ l _ List.mem_cons_self
  obtain ⟨m2, e2⟩ := m.freeze hx
  refine (h (upd P l (.lst xs)) σ H ?_ m2).mono (Ψ.up e2)
  obtain ⟨v, hv, iv⟩ := s.at_ i _ hi
  have ev : v = .ref l := by cases iv; rfl
  subst ev
  have hb := (List.getElem?_eq_some_iff.mp hv).1
  have hset : σ.set i (some (V.ref l)) = σ := by
    refine List.ext_getElem? fun j => ?_
    by_cases hj : i = j
    · subst hj
      rw [List.getElem?_set_self hb, hv]
    · rw [List.getElem?_set_ne hj]
  have s2 := (s.mono e2).set (i := i) (v := V.ref l) (d := .lst ds) (.lst (SqL.of upd_same) hd.1 fun j x d a b => (hd.2 j x d a b).mono e2)
  rw [hset] at s2
  exact s2
theorem w1_set {i : Nat} {x : Str} (hN : X.N.Nodup) (hi : X.N[i]? = some x) (hx : Loc X.env.scope x) (h : WE X Γ M e fun d M1 => Ψ.nx (Γ.set i (some d)) M1) (hs : swapsWith e (some (.Name x pos')) pos.line X.env = pure false)
    (hf : X.fn x = true ∨ X.env.scope.names.lookup x = some .local) : W1 X Γ M (.Assign [.Name x pos'] e pos) Ψ := fun P σ H s m =>
  wpS_of (ps_set hN hi hx pe_wp hs hf) ((h P σ H s m).mono fun v H1 ⟨d, M1, P1, q, e1, m1, i1⟩ => ⟨_, M1, P1, q, e1, (s.mono e1).set i1, m1⟩)
theorem w1_ret (h : WE X Γ M e Ψ.rt) : W1 X Γ M (.Return (some e) pos) Ψ := fun P σ H s m => wpS_of (ps_ret pe_wp) (h P σ H s m)
theorem w1_expr (h : WE X Γ M e fun _ M1 => Ψ.nx Γ M1) (hs : swapsWith e none pos.line X.env = pure false) : W1 X Γ M (.Expr e pos) Ψ := fun P σ H s m =>
  wpS_of (ps_expr pe_wp hs) ((h P σ H s m).mono fun v H1 ⟨d, M1, P1, q, e1, m1, i1⟩ => ⟨Γ, M1, P1, q, e1, s.mono e1, m1⟩)
theorem w1_if {A E : List Stmt} (h : WT X Γ M c fun k M1 => (k = true → WS X Γ M1 A Ψ) ∧ (k = false → WS X Γ M1 E Ψ)) : W1 X Γ M (.If c A E pos) Ψ := fun P σ H s m =>
  wpS_of (ps_if pt_wp pss_wp pss_wp) ((h P σ H s m).mono fun k H1 ⟨M1, P1, q, e1, m1⟩ => by
    cases k with
    | true => exact iteT ((q.1 rfl P1 σ H1 (s.mono e1) m1).mono (Ψ.up e1))
    | false => exact iteF ((q.2 rfl P1 σ H1 (s.mono e1) m1).mono (Ψ.up e1)))
end
end Dt
set_option Elab.async false
set_option linter.all false
set_option maxRecDepth 100000
set_option maxHeartbeats 2000000
namespace Dt
open PySem PySem.Spec PyProof.Rows L2
def startD (n : Nat) (ds : List D) : Sl := ds.map some ++ List.replicate (n - ds.length) none
theorem sok_start {K : PySem.W.Frag} {P : Hp} {N : List Str} {vs : List V} {ds : List D} (h : IsDs K P vs ds) : SOk K (startD N.length ds) P (L2.start N vs) := by
  have hl := h.1
  refine ⟨by unfold startD L2.start; rw [List.length_append, List.length_append, List.length_map, List.length_map, List.length_replicate, List.length_replicate, hl], fun i d q => ?_⟩
  unfold startD at q
  by_cases hi : i < ds.length
  · rw [List.getElem?_append_left (by rw [List.length_map]; exact hi), List.getElem?_map, List.getElem?_eq_getElem hi] at q
    have e : ds[i] = d := by simpa using q
    obtain ⟨x, hx, ix⟩ := h.get (i := i) (d := d) (by rw [List.getElem?_eq_getElem hi, e])
    refine ⟨x, ?_, ix⟩
    unfold L2.start
    rw [List.getElem?_append_left (by rw [List.length_map, hl]; exact hi), List.getElem?_map, hx]
    rfl
  · rw [List.getElem?_append_right (by rw [List.length_map]; omega)] at q
    have hm := List.mem_of_getElem? q
    have := (List.mem_replicate.mp hm).2
    cases this
section
variable {P : Program} {w : World} {K : PySem.W.Frag} {mg : Str → Option Value} {base : Heap} {x qual : Str} {params : Arguments} {body : List Stmt} {scope : Scope} {dvs : List V} {kws : List (Str × V)} {f : Addr} {fd : FuncData}
/-- THE RULE for a def by data -/
theorem fn_data {N ps : List Str} {k : Nat} {S : DS} (F : FunD K x qual params body scope dvs kws f fd) (Sc : FnScope N ps scope) (len : ∀ ds M Φ, S ds M Φ → ds.length = ps.length)
    (hbody : ∀ (cdv : Value) (A : Around) (outer : List Env) (s : Shared) (H : Hp) (E : XK) (ds : List D) (M : Mem) (Φ : VP), Room k (A.deeper (envOfC qual scope s.heap.objs.size f cdv)) → S ds M Φ →
      WS (cxOf CX0 P w K mg base N qual scope f cdv A outer s H E).nox (startD N.length ds) M body { nx := fun _ M' => Φ .non M', rt := Φ }) : FnOk P w K mg base CX0 (k + 1) f fd ps (spOf K S) := by
  refine F.ok Sc (fun vs H Q E h => ?_) (fun cdv A outer s H vs Q E hr h => ?_)
  · obtain ⟨P1, M, ds, Φ, i, m, hs, _⟩ := h
    rw [i.1]
    exact len _ _ _ hs
  · obtain ⟨P1, M, ds, Φ, i, m, hs, hq⟩ := h
    refine ⟨_, PSs.nox pss_wp, ?_⟩
    refine (hbody cdv A outer s H E ds M Φ hr hs P1 (L2.start N vs) H (sok_start i) m).mono ⟨fun σ' H' ⟨Γ', M', P', q, e, _, m'⟩ => hq _ _ ⟨.non, M', P', q, e, m', .non⟩, fun v H' z => hq v H' z, fun _ _ ⟨_, _, _, z, _⟩ => z.elim, fun _ _ ⟨_, _, _, z, _⟩ => z.elim⟩
end
section
variable {X : Cx} {Γ : Sl} {M : Mem} {Φ : VP} {Ψ : Po} {e a b c o : Expr} {es : List Expr} {pos p pos' apos : Pos} {k : Nat} {x f : Str} {S : DS}
theorem sp_of {P : Hp} {H : Hp} {vs : List V} {ds : List D} {E : XK} {K : PySem.W.Frag} (i : IsDs K P vs ds) (m : MOk K M P H) (s : S ds M Φ) : spOf K S (vs ++ []) H (Fin K P Φ) E := ⟨P, M, ds, Φ, by rw [List.append_nil]; exact i, m, s, fun _ _ z => z⟩
/-- f(e, ..) -/
theorem we_call (F : HasFn X.prog X.w X.K X.mg X.base k x S) (hr : Room k X.A) (hg : Gl X x) (h : WA X Γ M (e :: es) fun ds M1 => S ds M1 Φ) (hdb : (x == ("__debug__" : Str)) = false) (he : starEach (e :: es) X.env = (false, eval e X.env) :: starEach es X.env)
    (hpl : (backTo pos (starEach es X.env)).any (·.1) = false) : WE X Γ M (.Call (.Name x p) (e :: es) [] pos) Φ := fun P σ H s m => by
  obtain ⟨f, fd, ps, F1, hm, hk, hb⟩ := F
  exact wpT_of (pe_call F1 hr hg hm hk hb .nil pass0 pa_wp hdb he hpl) ((h P σ H s m).mono fun vs H1 ⟨ds, M1, P1, q, e1, m1, i1⟩ => by
    obtain ⟨P2, M2, d2, Φ2, a1, a2, a3, a4⟩ := sp_of (E := E0) i1 m1 q
    exact ⟨P2, M2, d2, Φ2, a1, a2, a3, fun v H' z => (a4 v H' z).up e1⟩)
/-- an attribute, by data -/
def AtD (X : Cx) (f : Str) (d : D) (M : Mem) (Φ : VP) : Prop := ∀ P H v, MOk X.K M P H → IsD X.K P v d → ∀ pins σ s u, Inv X pins σ H s → RelV v u → wpAny (model X.prog X.w) X.A (getAttr u f true) (EP X pins σ (Fin X.K P Φ)) X.xe s
theorem we_attr (h : WE X Γ M e fun d M1 => AtD X f d M1 Φ) (hb : attributeBase e f X.env (eval e X.env) = eval e X.env) : WE X Γ M (.Attribute e f pos) Φ := fun P σ H s m pins sh I =>
  attr_of hb (thn (h P σ H s m pins sh I) fun u s1 ⟨v, H1, I1, r1, d, M1, P1, q, e1, m1, i1⟩ => thn (q P1 H1 v m1 i1 pins σ s1 u I1 r1) fun u2 s2 ⟨v2, H2, I2, r2, z⟩ => ⟨v2, H2, I2, r2, z.up e1⟩)
theorem frz_lst {K : PySem.W.Frag} {P H : Hp} {l : Addr} {ds : List D} (m : MOk K ((l, .lst ds) :: M) P H) : ∃ P2, Ex P P2 ∧ MOk K M P2 H ∧ IsD K P2 (.ref l) (.lst ds) := by
  obtain ⟨_, xs, h1, h2⟩ := m.at_ l _ List.mem_cons_self
  obtain ⟨m2, e2⟩ := m.freeze h1
  exact ⟨_, e2, m2, .lst (SqL.of upd_same) h2.1 fun i x d a b => (h2.2 i x d a b).mono e2⟩
end
section
variable {X : Cx} {M : Mem} {Φ : VP} {i j : Int}
theorem od_int {f : Value → Value → Sem Value} {C : Int → Int → Prop} {g : Int → Int → V} {d : D} (h : OpR X f (rI C g)) (hc : C i j) (hg : ∀ P, IsD X.K P (g i j) d) (q : Φ d M) : OpD X f (.int i) (.int j) M Φ := fun P H a b m ia ib => by
  cases ia
  cases ib
  exact opT_of h ⟨i, j, rfl, rfl, hc, .one q m (hg P)⟩
theorem od_mulW (hc : CMulW i j) (q : Φ (.int (i * j)) M) : OpD X (binaryOp .Mult) (.int i) (.int j) M Φ := od_int op_mulW hc (fun _ => .int) q
theorem od_fdivW (hc : CDivW i j) (q : Φ (.int (i / j)) M) : OpD X (binaryOp .FloorDiv) (.int i) (.int j) M Φ := od_int op_fdivW hc (fun _ => .int) q
theorem od_fdiv (hc : 0 < j ∧ j < 1073741824) (q : Φ (.int (i / j)) M) : OpD X (binaryOp .FloorDiv) (.int i) (.int j) M Φ := od_int op_fdiv hc (fun _ => .int) q
theorem od_mod (hc : 0 < j) (q : Φ (.int (i % j)) M) : OpD X (binaryOp .Mod) (.int i) (.int j) M Φ := od_int op_mod hc (fun _ => .int) q
theorem od_pow (hc : 0 ≤ j ∧ j ≤ 1000000 ∧ i.natAbs < 2 ^ 64) (q : Φ (.int (i ^ j.toNat)) M) : OpD X (binaryOp .Pow) (.int i) (.int j) M Φ := od_int op_pow hc (fun _ => .int) q
theorem ud_neg (q : Φ (.int (-i)) M) : UnD X (unaryOp .USub) (.int i) M Φ := fun P H a m ia => by
  cases ia
  exact unT_of un_neg ⟨i, rfl, .one q m .int⟩
end
section
variable {X : Cx} {Γ : Sl} {M : Mem} {Φ : VP} {a b : Expr} {pos : Pos}
theorem we_ix (h : WE X Γ M a fun x M1 => WE X Γ M1 b fun y M2 => IxD X x y M2 Φ) (hs : PlainIx b) : WE X Γ M (.Subscript a b pos) Φ := fun P σ H s m =>
  wpT_of (pe_ix ix_seq pe_wp pe_wp hs) ((h P σ H s m).mono fun v H1 ⟨d, M1, P1, q, e1, m1, i1⟩ => (q P1 σ H1 (s.mono e1) m1).mono fun u H2 ⟨d2, M2, P2, q2, e2, m2, i2⟩ => by
    have z := q2 P2 H2 v u m2 (i1.mono e2) i2
    rcases z with ⟨p, xs, i, w, h1, h2, h3, h4, h5⟩ | ⟨p, xs, i, w, h1, h2, h3, h4, h5⟩ | ⟨y, i, c, h1, h2, h3, h4, h5⟩
    · exact .inl ⟨p, xs, i, w, h1, h2, h3, h4, h5.up (e1.trans e2)⟩
    · exact .inr (.inl ⟨p, xs, i, w, h1, h2, h3, h4, h5.up (e1.trans e2)⟩)
    · exact .inr (.inr ⟨y, i, c, h1, h2, h3, h4, h5.up (e1.trans e2)⟩))
/-- l[i] = e -/
theorem w1_setI {o e : Expr} {pos' : Pos} {Ψ : Po} (h : WE X Γ M e fun d M1 => WE X Γ M1 o fun d2 M2 => WE X Γ M2 b fun d3 M3 => ∃ (k j : Nat) (l : Addr) (ds : List D) (i : Int), d2 = .adr l ∧ d3 = .int i ∧ M3[k]? = some (l, .lst ds) ∧ i = (j : Int) ∧ j < ds.length ∧ Ψ.nx Γ (M3.set k (l, .lst (ds.set j d))))
    (hg : PG X (.Subscript o b pos') (gSub (wpT X o) (wpT X b) rSetL) := by exact pg_sub pe_wp pe_wp set_list) (hs : swapsWithSole [.Subscript o b pos'] e pos.line X.env = pure false) (hw : swappedStores [.Subscript o b pos'] e X.env = pure none)
    (h1 : (assignEach [.Subscript o b pos'] X.env).map (·.2) = [assign (.Subscript o b pos') X.env]) : W1 X Γ M (.Assign [.Subscript o b pos'] e pos) Ψ := fun P σ H s m =>
  wpS_of (ps_asg pe_wp hg hs hw h1) ((h P σ H s m).mono fun v H1 ⟨d, M1, P1, q, e1, m1, i1⟩ => (q P1 σ H1 (s.mono e1) m1).mono fun u H2 ⟨d2, M2, P2, q2, e2, m2, i2⟩ => (q2 P2 σ H2 (s.mono (e1.trans e2)) m2).mono fun u3 H3 ⟨d3, M3, P3, ⟨k, j, l, ds, i, ea, eb, hk, hj, hb, q3⟩, e3, m3, i3⟩ => by
    subst ea eb hj
    cases i2
    cases i3
    obtain ⟨_, xs, h1, h2⟩ := m3.get hk
    refine ⟨l, xs, (j : Int), j, rfl, rfl, h1, ?_, Γ, _, P3, q3, (e1.trans e2).trans e3, s.mono ((e1.trans e2).trans e3), m3.put hk ⟨_, upd_same, ?_⟩⟩
    · unfold ixN
      rw [if_pos (by omega), if_pos (by rw [h2.1]; omega)]
      simp
    · refine ⟨by rw [List.length_set, List.length_set]; exact h2.1, fun n x d' a b => ?_⟩
      by_cases hn : j = n
      · subst hn
        rw [List.getElem?_set_self (by rw [h2.1]; exact hb)] at a
        rw [List.getElem?_set_self hb] at b
        cases a
        cases b
        exact (i1.mono e2).mono e3
      · rw [List.getElem?_set_ne hn] at a b
        exact h2.2 n x d' a b)
end
end Dt
set_option Elab.async false
set_option linter.all false
set_option maxRecDepth 100000
set_option maxHeartbeats 2000000
namespace Dt
open PySem PySem.Spec PyProof.Rows L2
section
variable {X : Cx} {Γ : Sl} {M : Mem} {Φ : VP} {Ψ : Po} {e : Expr} {es : List Expr} {pos p pos' : Pos} {B : Bool → Mem → Prop}
theorem wv (i : Nat) {x : Str} {d : D} (hΓ : Γ[i]? = some (some d)) (h : Φ d M) (hN : X.N[i]? = some x := by rfl) (hv : Vis X.env.scope x := by first | exact Or.inl rfl | exact Or.inr (Or.inl rfl) | exact Or.inr (Or.inr rfl))
    (hd : (x == ("__debug__" : Str)) = false := by decide) (hcd : (x == ("__classdict__" : Str)) = false := by decide) : WE X Γ M (.Name x pos) Φ := we_var hN hv hd hcd hΓ h
theorem ws_set (i : Nat) {x : Str} {sts : List Stmt} (hN : X.N.Nodup) (h : WE X Γ M e fun d M1 => WS X (Γ.set i (some d)) M1 sts Ψ) (hi : X.N[i]? = some x := by rfl) (hx : Loc X.env.scope x := by first | exact Or.inl rfl | exact Or.inr rfl) (hs : swapsWith e (some (.Name x pos')) pos.line X.env = pure false := by rfl)
    (hf : X.fn x = true ∨ X.env.scope.names.lookup x = some .local := by first | exact .inl rfl | exact .inr rfl) : WS X Γ M (.Assign [.Name x pos'] e pos :: sts) Ψ := ws_cons (w1_set hN hi hx h hs hf)
theorem ws_ret {sts : List Stmt} (h : WE X Γ M e Ψ.rt) : WS X Γ M (.Return (some e) pos :: sts) Ψ := ws_cons (w1_ret h)
theorem ws_if {c : Expr} {A E sts : List Stmt} (h : WT X Γ M c fun k M1 => (k = true → WS X Γ M1 A { Ψ with nx := fun Γ' M' => WS X Γ' M' sts Ψ }) ∧ (k = false → WS X Γ M1 E { Ψ with nx := fun Γ' M' => WS X Γ' M' sts Ψ })) : WS X Γ M (.If c A E pos :: sts) Ψ := ws_cons (w1_if h)
theorem ws_expr {sts : List Stmt} (h : WE X Γ M e fun _ M1 => WS X Γ M1 sts Ψ) (hs : swapsWith e none pos.line X.env = pure false := by rfl) : WS X Γ M (.Expr e pos :: sts) Ψ := ws_cons (w1_expr h hs)
/-- a statement, then the rest, with a word between them -/
theorem ws_mid {st : Stmt} {sts : List Stmt} (Mid : Sl → Mem → Prop) (h : W1 X Γ M st { Ψ with nx := Mid }) (q : ∀ Γ' M', Mid Γ' M' → WS X Γ' M' sts Ψ) : WS X Γ M (st :: sts) Ψ := ws_cons (h.mono q (fun _ _ z => z) (fun _ _ z => z) (fun _ _ z => z))
end
section
variable {X : Cx} {tg : Expr} {ts : List Expr} {σ : L2.St} {H : Hp} {pos : Pos}
theorem pg_wp : PG X tg (wpG X tg) := ⟨fun pins s _ _ v u _ I r h => h pins s u I r⟩
theorem pgs_wp : PGs X ts (wpGs X ts) := ⟨fun pins s _ _ v u _ I r h => h pins s u I r⟩
theorem wpG_of {t : TG} (h : PG X tg t) {v : V} {Q : L2.St → Hp → Prop} (q : t v σ H Q) : wpG X tg v σ H Q := fun pins s u I r => h.run pins s σ H v u Q I r q
theorem wpGs_of {t : TGs} (h : PGs X ts t) {vs : List V} {Q : L2.St → Hp → Prop} (q : t vs σ H Q) : wpGs X ts vs σ H Q := fun pins s u I r => h.run pins s σ H vs u Q I r q
end
def GD (X : Cx) (Γ : Sl) (M : Mem) (tg : Expr) (d : D) (Θ : Sl → Mem → Prop) : Prop := ∀ P σ H v, SOk X.K Γ P σ → MOk X.K M P H → IsD X.K P v d → wpG X tg v σ H (FinS X.K P Θ)
def GDs (X : Cx) (Γ : Sl) (M : Mem) (ts : List Expr) (ds : List D) (Θ : Sl → Mem → Prop) : Prop := ∀ P σ H vs, SOk X.K Γ P σ → MOk X.K M P H → IsDs X.K P vs ds → wpGs X ts vs σ H (FinS X.K P Θ)
section
variable {X : Cx} {Γ : Sl} {M : Mem} {tg e o : Expr} {ts : List Expr} {Θ : Sl → Mem → Prop} {pos pos' : Pos} {Ψ : Po} {d : D} {ds : List D} {f : Str}
theorem gd_name (i : Nat) {x : Str} (hN : X.N.Nodup) (h : Θ (Γ.set i (some d)) M) (hi : X.N[i]? = some x := by rfl) (hx : Loc X.env.scope x := by first | exact Or.inl rfl | exact Or.inr rfl) (hf : X.fn x = true ∨ X.env.scope.names.lookup x = some .local := by first | exact .inl rfl | exact .inr rfl) : GD X Γ M (.Name x pos) d Θ := fun P σ H v s m i1 =>
  wpG_of (pg_name hN hi hx hf) ⟨_, M, P, h, Same.refl P, s.set i1, m⟩
theorem gds_nil (h : Θ Γ M) : GDs X Γ M [] [] Θ := fun P σ H v s m i1 => wpGs_of pgs_nil ⟨i1.unnil, Γ, M, P, h, Same.refl P, s, m⟩
theorem gds_cons (h : GD X Γ M e d fun Γ' M' => GDs X Γ' M' ts ds Θ) (hs : (assignEach (e :: ts) X.env).map (·.2) = assign e X.env :: (assignEach ts X.env).map (·.2) := by rfl) : GDs X Γ M (e :: ts) (d :: ds) Θ := fun P σ H vs s m i1 => by
  obtain ⟨x, r, rfl, hx, hr⟩ := i1.uncons
  exact wpGs_of (pgs_cons pg_wp pgs_wp hs) ⟨x, r, rfl, (h P σ H x s m hx).mono fun σ' H' ⟨Γ', M', P', q, e1, s1, m1⟩ => (q P' σ' H' r s1 m1 (hr.mono e1)).mono fun _ _ z => z.up e1⟩
theorem gd_tup {n : Nat} {k : Nat} (hc : X.calm = true) (h : GDs X Γ M ts ds Θ) (hl : ds.length = n) (hn : (assignEach ts X.env).length = n := by rfl) (hst : (assignEach ts X.env).findIdx? (·.1) = none := by rfl) : GD X Γ M (.Tuple ts k pos) (.tup ds) Θ := fun P σ H v s m i1 => by
  cases i1 with
  | tup hs hl' hi => exact wpG_of (pg_tup hc pgs_wp hn hst) ⟨_, _, rfl, Same.tupS m.ex hs, by rw [hl', hl], h P σ H _ s m ⟨hl', hi⟩⟩
/-- a, b = x, y with plain local names -/
theorem ws_par (i j : Nat) {x y : Str} {a b : Expr} {sts : List Stmt} {px py pt : Pos} {kt k2 pt2} (hN : X.N.Nodup) (h : WA X Γ M [a, b] fun ds M1 => ∃ d1 d2, ds = [d1, d2] ∧ WS X ((Γ.set i (some d1)).set j (some d2)) M1 sts Ψ)
    (hij : i ≠ j := by decide) (hc : X.calm = true := by rfl) (hi : X.N[i]? = some x := by rfl) (hj : X.N[j]? = some y := by rfl)
    (hx : X.env.scope.names.lookup x = some .local := by rfl) (hy : X.env.scope.names.lookup y = some .local := by rfl)
    (hw : swappedStores [.Tuple [.Name x px, .Name y py] kt pt] (.Tuple [a, b] k2 pt2) X.env = pure (some [x, y]) := by rfl)
    (hs : swapsWithSole [.Tuple [.Name x px, .Name y py] kt pt] (.Tuple [a, b] k2 pt2) pos.line X.env = pure false := by rfl) : WS X Γ M (.Assign [.Tuple [.Name x px, .Name y py] kt pt] (.Tuple [a, b] k2 pt2) pos :: sts) Ψ := ws_cons fun P σ H s m =>
  wpS_of (ps_par hc hN hi hj hij hx hy pa_wp hw hs) ((h P σ H s m).mono fun vs H1 ⟨ds, M1, P1, ⟨d1, d2, ed, q⟩, e1, m1, i1⟩ => by
    subst ed
    obtain ⟨v, r, rfl, hv, hr⟩ := i1.uncons
    obtain ⟨u, r2, rfl, hu, hr2⟩ := hr.uncons
    obtain rfl := hr2.unnil
    exact ⟨v, u, rfl, _, M1, P1, q, e1, ((s.mono e1).set hv).set hu, m1⟩)
end
section
variable {X : Cx} {Γ : Sl} {M : Mem} {tg it a b : Expr} {body sts : List Stmt} {Ψ : Po} {pos p pos2 : Pos}
theorem w1_forR1 (hp : PassesOwn (model X.prog X.w) X.A X.env X.xe) (hc : X.calm = true) (hg : Gl X "range") (hm : X.mg "range" = none)
    (h : WA X Γ M [a] fun ds M1 => ∃ (Iv : Nat → Sl → Mem → Prop) (n : Int), ds = [.int n] ∧ -(2 ^ 62) ≤ n ∧ n < 2 ^ 62 ∧ Iv 0 Γ M1 ∧ (∀ (i : Nat) Γ' M', (i : Int) < n → Iv i Γ' M' → GD X Γ' M' tg (.int (i : Int)) fun Γ2 M2 => WS X Γ2 M2 body { Ψ with nx := Iv (i + 1), ct := Iv (i + 1), bk := Ψ.nx }) ∧ ∀ Γ' M', Iv n.toNat Γ' M' → Ψ.nx Γ' M')
    (hs : starEach [a] X.env = [(false, eval a X.env)] := by rfl) (hf : ∀ x, foldedSetIterable (.Call (.Name "range" p) [a] [] pos2) X.env x = pure x := by intro _; rfl) : W1 X Γ M (.For tg (.Call (.Name "range" p) [a] [] pos2) body [] pos) Ψ := fun P σ H s m =>
  wpS_of (ps_for hp hc (pi_range1 hg hm pa_wp hs) pg_wp pss_wp hf) ((h P σ H s m).mono fun vs H1 ⟨ds, M1, P1, ⟨Iv, n, ed, h1, h2, hI, hstep, hdone⟩, e1, m1, i1⟩ => by
    subst ed
    obtain ⟨v, r, rfl, hv, hr⟩ := i1.uncons
    obtain rfl := hr.unnil
    cases hv
    refine ⟨n, rfl, h1, h2, for_range (lo := 0) (n := n.toNat) (fun i => FinS X.K P (Iv i)) ⟨Γ, M1, P1, hI, e1, s.mono e1, m1⟩ ?_ ?_⟩
    · rintro i σ' H' hi ⟨Γ', M', P', hI', e', s', m'⟩
      refine (hstep i Γ' M' (by omega) hI' P' σ' H' (.int (0 + (i : Int))) s' m' (by rw [Int.zero_add]; exact .int)).mono fun σ2 H2 ⟨Γ2, M2, P2, q, e2, s2, m2⟩ => (q P2 σ2 H2 s2 m2).mono ?_
      exact ⟨fun _ _ z => z.up (e'.trans e2), fun _ _ z => z.up (e'.trans e2), fun _ _ z => z.up (e'.trans e2), fun _ _ z => z.up (e'.trans e2)⟩
    · rintro σ' H' ⟨Γ', M', P', hI', e', s', m'⟩
      exact ⟨Γ', M', P', hdone Γ' M' hI', e', s', m'⟩)
/-- over a list, a tuple -/
theorem w1_forL (hp : PassesOwn (model X.prog X.w) X.A X.env X.xe) (hc : X.calm = true)
    (h : WE X Γ M it fun d M1 => ∃ (Iv : Nat → Sl → Mem → Prop) (xs : List D), d = .lst xs ∧ Iv 0 Γ M1 ∧ (∀ (i : Nat) (y : D) Γ' M', xs[i]? = some y → Iv i Γ' M' → GD X Γ' M' tg y fun Γ2 M2 => WS X Γ2 M2 body { Ψ with nx := Iv (i + 1), ct := Iv (i + 1), bk := Ψ.nx }) ∧ ∀ Γ' M', Iv xs.length Γ' M' → Ψ.nx Γ' M')
    (hf : ∀ x, foldedSetIterable it X.env x = pure x := by intro _; rfl) : W1 X Γ M (.For tg it body [] pos) Ψ := fun P σ H s m =>
  wpS_of (ps_for hp hc (pi_list pe_wp) pg_wp pss_wp hf) ((h P σ H s m).mono fun v H1 ⟨d, M1, P1, ⟨Iv, xs, ed, hI, hstep, hdone⟩, e1, m1, i1⟩ => by
    subst ed
    cases i1 with
    | @lst l vs _ hq hl hi =>
      refine ⟨l, rfl, ⟨vs, m1.ex.seq hq⟩, for_list (K := X.K) (a := l) (xs := vs) (fun i => FinS X.K P1 (Iv i)) ⟨Γ, M1, P1, hI, Same.refl P1, s.mono e1, m1⟩ (fun i σ' H' _ ⟨Γ', M', P', _, e', _, m'⟩ => m'.ex.seq (e'.seq hq)) ?_ ?_⟩
      · rintro i x σ' H' hx ⟨Γ', M', P', hI', e', s', m'⟩
        obtain ⟨y, hy, iy⟩ := IsDs.getV (K := X.K) (P := P1) ⟨hl, hi⟩ hx
        refine (hstep i y Γ' M' hy hI' P' σ' H' x s' m' (iy.mono e')).mono fun σ2 H2 ⟨Γ2, M2, P2, q, e2, s2, m2⟩ => (q P2 σ2 H2 s2 m2).mono ?_
        exact ⟨fun _ _ z => z.up (e'.trans e2), fun _ _ z => z.up (e1.trans (e'.trans e2)), fun _ _ z => z.up (e1.trans (e'.trans e2)), fun _ _ z => z.up (e'.trans e2)⟩
      · rintro σ' H' ⟨Γ', M', P', hI', e', s', m'⟩
        exact ⟨Γ', M', P', hdone Γ' M' (by rw [← hl]; exact hI'), e1.trans e', s', m'⟩)
/-- while, by a word and a measure -/
theorem w1_while {c : Expr} (W : Nat → Sl → Mem → Prop) (hp : PassesOwn (model X.prog X.w) X.A X.env X.xe) (n0 : Nat) (h0 : W n0 Γ M)
    (hs : ∀ n Γ' M', W n Γ' M' → WT X Γ' M' c fun k M1 => (k = true → WS X Γ' M1 body { Ψ with nx := fun Γ2 M2 => ∃ n', n' < n ∧ W n' Γ2 M2, ct := fun Γ2 M2 => ∃ n', n' < n ∧ W n' Γ2 M2, bk := Ψ.nx }) ∧ (k = false → Ψ.nx Γ' M1)) : W1 X Γ M (.While c body [] pos) Ψ := fun P σ H s m =>
  wpS_of (ps_while hp pt_wp pss_wp) (show tWhile (wpB X c) (wpSs X body) (Ψ.ends X.K P) σ H from ⟨fun n => FinS X.K P (W n), ⟨n0, Γ, M, P, h0, Same.refl P, s, m⟩, fun n σ' H' ⟨Γ', M', P', hW, e', s', m'⟩ => (hs n Γ' M' hW P' σ' H' s' m').mono fun k H1 ⟨M1, P1, q, e1, m1⟩ => by
    cases k with
    | true =>
      refine iteT ⟨FinS X.K P fun Γ2 M2 => ∃ n', n' < n ∧ W n' Γ2 M2, fun σ2 H2 ⟨Γ2, M2, P2, ⟨n', hn, w2⟩, e2, s2, m2⟩ => ⟨n', hn, Γ2, M2, P2, w2, e2, s2, m2⟩, ?_⟩
      refine (q.1 rfl P1 σ' H1 (s'.mono e1) m1).mono ?_
      exact ⟨fun _ _ z => z.up (e'.trans e1), fun _ _ z => z.up (e'.trans e1), fun _ _ z => z.up (e'.trans e1), fun _ _ z => z.up (e'.trans e1)⟩
    | false => exact iteF ⟨Γ', M1, P1, q.2 rfl, e'.trans e1, s'.mono e1, m1⟩⟩)
end
end Dt
set_option Elab.async false
set_option linter.all false
set_option maxRecDepth 100000
set_option maxHeartbeats 2000000
namespace Dt
open PySem PySem.Spec PyProof.Rows L2
section
variable {X : Cx} {Γ : Sl} {M : Mem} {Φ : VP} {Ψ : Po} {e o a b : Expr} {es : List Expr} {pos p apos : Pos}
theorem cd_abs {i : Int} (q : Φ (.int (if i < 0 then -i else i)) M) : CaD X (.builtin "abs") [.int i] M Φ := cd_of call_abs fun P H vs m h => by
  obtain ⟨v, rfl, hv⟩ := h.un1
  cases hv
  exact ⟨i, rfl, .one q m .int⟩
theorem cd_int {i : Int} (q : Φ (.int i) M) : CaD X (.type "int") [.int i] M Φ := cd_of call_int1 fun P H vs m h => by
  obtain ⟨v, rfl, hv⟩ := h.un1
  cases hv
  exact .inl ⟨i, rfl, .one q m .int⟩
theorem cd_len_lst {ds : List D} (q : Φ (.int ds.length) M) : CaD X (.builtin "len") [.lst ds] M Φ := cd_of call_len fun P H vs m h => by
  obtain ⟨v, rfl, hv⟩ := h.un1
  cases hv with
  | lst hs hl hi => exact ⟨_, ds.length, rfl, .inl ⟨_, m.ex.seq hs, hl.symm⟩, .one q m .int⟩
theorem cd_len_tup {ds : List D} (q : Φ (.int ds.length) M) : CaD X (.builtin "len") [.tup ds] M Φ := cd_of call_len fun P H vs m h => by
  obtain ⟨v, rfl, hv⟩ := h.un1
  cases hv with
  | tup hs hl hi => exact ⟨_, ds.length, rfl, .inr ⟨_, Same.tupS m.ex hs, hl.symm⟩, .one q m .int⟩
/-- tuple(xs) -/
theorem cd_tuple {ds : List D} {d : D} (hd : d = .lst ds ∨ d = .tup ds ∨ ∃ (k : Nat) (l : Addr), d = .adr l ∧ M[k]? = some (l, .lst ds)) (q : Φ (.tup ds) M) : CaD X (.type "tuple") [d] M Φ := cd_of call_tuple_of fun P H vs m h => by
  obtain ⟨v, rfl, hv⟩ := h.un1
  rcases hd with rfl | rfl | ⟨k, l, rfl, hk⟩
  · cases hv with
    | lst hs hl hi =>
      refine ⟨_, _, rfl, .inl ⟨m.ex.seq hs, fun l hn => ?_⟩⟩
      obtain ⟨m2, e2⟩ := m.push (o := .tup _) hn
      exact ⟨_, M, _, q, e2, m2, .tup (SqT.of upd_same) hl fun i x d a b => (hi i x d a b).mono e2⟩
  · cases hv with
    | tup hs hl hi => exact ⟨_, _, rfl, .inr ⟨Same.tupS m.ex hs, .one q m (.tup hs hl hi)⟩⟩
  · cases hv
    obtain ⟨_, xs, h1, h2⟩ := m.get hk
    refine ⟨_, _, rfl, .inl ⟨SqL.of h1, fun l' hn => ?_⟩⟩
    obtain ⟨m2, e2⟩ := m.push (o := .tup xs) hn
    exact ⟨_, M, _, q, e2, m2, .tup (SqT.of upd_same) h2.1 fun i x d a b => (h2.2 i x d a b).mono e2⟩
theorem we_append (h : WE X Γ M o fun d M1 => ∃ (l : Addr) (k0 : Nat) (ds0 : List D), d = .adr l ∧ M1[k0]? = some (l, .lst ds0) ∧ WE X Γ M1 e fun y M2 => ∃ (k : Nat) (ds : List D), M2[k]? = some (l, .lst ds) ∧ ds.length < sizeLine ∧ Φ .non (M2.set k (l, .lst (ds ++ [y]))))
    (hq : PE X (.Call (.Attribute o "append" apos) [e] [] pos) (tBM X.K "list" rAppend (wpT X o) (wpA X [e])) := by exact pe_bm PySem.F.plainAttrs_list PySem.F.slot_list_append PySem.F.type_list_append mt_append pe_wp pa_wp)
    (hs : starEach [e] X.env = (false, eval e X.env) :: starEach [] X.env := by rfl) : WE X Γ M (.Call (.Attribute o "append" apos) [e] [] pos) Φ := fun P σ H s m =>
  wpT_of hq ((h P σ H s m).mono fun v H1 ⟨d, M1, P1, ⟨l, k0, ds0, ed, hk0, q⟩, e1, m1, i1⟩ => by
    subst ed
    cases i1
    have hA : WA X Γ M1 [e] fun ds' M2 => ∃ y, ds' = [y] ∧ ∃ (k : Nat) (ds : List D), M2[k]? = some (l, .lst ds) ∧ ds.length < sizeLine ∧ Φ .non (M2.set k (l, .lst (ds ++ [y]))) :=
      wa_cons (q.mono fun y M2 z => wa_nil ⟨y, rfl, z⟩) hs
    obtain ⟨_, xs0, h01, h02⟩ := m1.get hk0
    refine ⟨.inl ⟨rfl, xs0, SqL.of h01⟩, (hA P1 σ H1 (s.mono e1) m1).mono fun vs H2 ⟨ds', M2, P2, ⟨y, ey, k, ds, hk, hlen, q2⟩, e2, m2, i2⟩ => ?_⟩
    subst ey
    obtain ⟨u, rfl, hu⟩ := i2.un1
    obtain ⟨_, xs, h1, h2⟩ := m2.get hk
    exact ⟨l, xs, u, rfl, rfl, h1, by rw [h2.1]; exact hlen, .non, _, P2, q2, e1.trans e2, m2.put hk ⟨_, upd_same, h2.append (.cons hu .nil)⟩, .non⟩)
/-- the argument is a list of one's own, k2 its place -/
theorem we_extend (h : WE X Γ M o fun d M1 => ∃ (l : Addr) (k0 : Nat) (ds0 : List D), d = .adr l ∧ M1[k0]? = some (l, .lst ds0) ∧ WE X Γ M1 e fun y M2 => ∃ (k k2 : Nat) (l2 : Addr) (ds es' : List D), y = .adr l2 ∧ M2[k]? = some (l, .lst ds) ∧ M2[k2]? = some (l2, .lst es') ∧ ds.length + es'.length ≤ sizeLine ∧ Φ .non (M2.set k (l, .lst (ds ++ es'))))
    (hq : PE X (.Call (.Attribute o "extend" apos) [e] [] pos) (tBM X.K "list" rExtend (wpT X o) (wpA X [e])) := by exact pe_bm PySem.F.plainAttrs_list PySem.F.slot_list_extend PySem.F.type_list_extend mt_extend pe_wp pa_wp)
    (hs : starEach [e] X.env = (false, eval e X.env) :: starEach [] X.env := by rfl) : WE X Γ M (.Call (.Attribute o "extend" apos) [e] [] pos) Φ := fun P σ H s m =>
  wpT_of hq ((h P σ H s m).mono fun v H1 ⟨d, M1, P1, ⟨l, k0, ds0, ed, hk0, q⟩, e1, m1, i1⟩ => by
    subst ed
    cases i1
    have hA : WA X Γ M1 [e] fun ds' M2 => ∃ y, ds' = [y] ∧ ∃ (k k2 : Nat) (l2 : Addr) (ds es' : List D), y = .adr l2 ∧ M2[k]? = some (l, .lst ds) ∧ M2[k2]? = some (l2, .lst es') ∧ ds.length + es'.length ≤ sizeLine ∧ Φ .non (M2.set k (l, .lst (ds ++ es'))) :=
      wa_cons (q.mono fun y M2 z => wa_nil ⟨y, rfl, z⟩) hs
    obtain ⟨_, xs0, h01, h02⟩ := m1.get hk0
    refine ⟨.inl ⟨rfl, xs0, SqL.of h01⟩, (hA P1 σ H1 (s.mono e1) m1).mono fun vs H2 ⟨ds', M2, P2, ⟨y, ey, k, k2, l2, ds, es', ey2, hk, hk2, hlen, q2⟩, e2, m2, i2⟩ => ?_⟩
    subst ey ey2
    obtain ⟨u, rfl, hu⟩ := i2.un1
    cases hu
    obtain ⟨_, xs, h1, h2⟩ := m2.get hk
    obtain ⟨_, ys, h3, h4⟩ := m2.get hk2
    exact ⟨l, l2, xs, ys, rfl, rfl, h1, h3, by rw [h2.1, h4.1]; exact hlen, .non, _, P2, q2, e1.trans e2, m2.put hk ⟨_, upd_same, h2.append h4⟩, .non⟩)
/-- xs.pop() -/
theorem we_pop (h : WE X Γ M o fun d M1 => ∃ (l : Addr) (k : Nat) (ds : List D) (y : D), d = .adr l ∧ M1[k]? = some (l, .lst ds) ∧ ds[ds.length - 1]? = some y ∧ Φ y (M1.set k (l, .lst ds.dropLast)))
    (hq : PE X (.Call (.Attribute o "pop" apos) [] [] pos) (tBM0 X.K "list" rPop (wpT X o)) := by exact pe_bm0 PySem.F.plainAttrs_list PySem.F.slot_list_pop PySem.F.type_list_pop mt_pop pe_wp) : WE X Γ M (.Call (.Attribute o "pop" apos) [] [] pos) Φ := fun P σ H s m =>
  wpT_of hq ((h P σ H s m).mono fun v H1 ⟨d, M1, P1, ⟨l, k, ds, y, ed, hk, hy, q⟩, e1, m1, i1⟩ => by
    subst ed
    cases i1
    obtain ⟨_, xs, h1, h2⟩ := m1.get hk
    have hb : ds.length - 1 < ds.length := (List.getElem?_eq_some_iff.mp hy).1
    obtain ⟨u, hu, iu⟩ := h2.get hy
    refine ⟨.inl ⟨rfl, xs, SqL.of h1⟩, l, xs, u, rfl, rfl, h1, by rw [h2.1]; exact hu, y, _, P1, q, e1, m1.put hk ⟨_, upd_same, ?_⟩, iu⟩
    refine ⟨by rw [List.length_dropLast, List.length_dropLast, h2.1], fun i x d a b => ?_⟩
    rw [List.getElem?_dropLast] at a b
    split at a
    · split at b
      · exact h2.2 i x d a b
      · cases b
    · cases a)
end
theorem wipe_get (σ : L2.St) (i : Nat) : ∀ vs : List Nat, (wipe σ vs)[i]? = if i ∈ vs ∧ i < σ.length then some none else σ[i]?
  | [] => by simp [wipe]
  | v :: vs => by
    have ih := wipe_get σ i vs
    have hl := wipe_length σ vs
    show ((wipe σ vs).set v none)[i]? = _
    by_cases hv : v = i
    · subst hv
      by_cases hb : v < σ.length
      · rw [List.getElem?_set_self (by rw [hl]; exact hb), if_pos ⟨List.mem_cons_self, hb⟩]
      · rw [if_neg (fun z => hb z.2), List.getElem?_eq_none (by rw [List.length_set, hl]; omega), List.getElem?_eq_none (by omega)]
    · rw [List.getElem?_set_ne hv, ih]
      have hm : (i ∈ v :: vs) ↔ i ∈ vs := by
        rw [List.mem_cons]
        exact ⟨fun z => z.elim (fun q => absurd q.symm hv) id, .inr⟩
      simp only [hm]
theorem wipe_set {σ : L2.St} {j : Nat} {x : Option V} {vs : List Nat} (h : j ∈ vs) : wipe (σ.set j x) vs = wipe σ vs := by
  refine List.ext_getElem? fun i => ?_
  rw [wipe_get, wipe_get, List.length_set]
  by_cases hi : i ∈ vs ∧ i < σ.length
  · rw [if_pos hi, if_pos hi]
  · rw [if_neg hi, if_neg hi]
    by_cases hj : j = i
    · subst hj
      rw [List.getElem?_eq_none (by rw [List.length_set]; exact Nat.le_of_not_lt fun z => hi ⟨h, z⟩), List.getElem?_eq_none (Nat.le_of_not_lt fun z => hi ⟨h, z⟩)]
    · rw [List.getElem?_set_ne hj]
theorem wipe_wipe (σ : L2.St) (vs : List Nat) : wipe (wipe σ vs) vs = wipe σ vs := by
  refine List.ext_getElem? fun i => ?_
  rw [wipe_get, wipe_get, wipe_length]
  by_cases hi : i ∈ vs ∧ i < σ.length
  · rw [if_pos hi, if_pos hi]
  · rw [if_neg hi]
def wipeD (Γ : Sl) : List Nat → Sl
  | [] => Γ
  | v :: vs => (wipeD Γ vs).set v none
theorem wipeD_length (Γ : Sl) : ∀ vs : List Nat, (wipeD Γ vs).length = Γ.length
  | [] => rfl
  | v :: vs => by unfold wipeD; rw [List.length_set, wipeD_length Γ vs]
theorem sok_wipe {K : PySem.W.Frag} {Γ : Sl} {P : Hp} {σ : L2.St} (h : SOk K Γ P σ) : ∀ vs : List Nat, SOk K (wipeD Γ vs) P (wipe σ vs)
  | [] => h
  | v :: vs => by
    have ih := sok_wipe h vs
    refine ⟨by rw [wipeD_length, wipe_length]; exact h.len, fun i d q => ?_⟩
    unfold wipeD at q
    unfold wipe
    by_cases hv : v = i
    · subst hv
      by_cases hb : v < (wipeD Γ vs).length
      · rw [List.getElem?_set_self hb] at q
        cases q
      · rw [List.getElem?_eq_none (by rw [List.length_set]; omega)] at q
        cases q
    · rw [List.getElem?_set_ne hv] at q
      rw [List.getElem?_set_ne hv]
      exact ih.at_ i d q
section
variable {X : Cx} {Γ : Sl} {M : Mem} {Φ : VP} {Ψ : Po} {elt tg iter : Expr} {ifs : List Expr} {scope : Scope} {own : List (Str × Nat)} {pos : Pos}
/-- the tests of a comprehension -/
def wpTs (X : Cx) (ifs : List Expr) : TT := fun σ H Q => ∀ pins s, Inv X pins σ H s → wpAny (model X.prog X.w) X.A (forIn ifs true fun c r => if r = true then do let ok ← isTrue c X.env (eval c X.env); pure (ForInStep.yield ok) else pure (ForInStep.yield r)) (TP X pins σ Q) X.xe s
def WTs (X : Cx) (Γ : Sl) (M : Mem) (ifs : List Expr) (B : Bool → Mem → Prop) : Prop := ∀ P σ H, SOk X.K Γ P σ → MOk X.K M P H → wpTs X ifs σ H (FinB X.K P B)
theorem wts_nil {B : Bool → Mem → Prop} (h : B true M) : WTs X Γ M [] B := fun P σ H s m pins sh I => pts_nil.run pins sh σ H _ I (show FinB X.K P B true H from ⟨M, P, h, Same.refl P, m⟩)
theorem wts_one {B : Bool → Mem → Prop} {c : Expr} (h : WT X Γ M c B) : WTs X Γ M [c] B := fun P σ H s m pins sh I => (pts_one pt_wp).run pins sh σ H _ I (h P σ H s m)
/-- a block's context -/
abbrev blkOf (X : Cx) (scope : Scope) (s : Shared) (H : Hp) (C : Addr) (cl : List (Str × Addr)) (fp : List Addr) : Cx := X.blk s H scope (compEnvC scope cl C X.env) fp
/-- one turn of a comprehension: out is made so far (at l, ahead of the other objects of one's own) -/
def Turn1 (X : Cx) (scope : Scope) (ifs : List Expr) (elt : Expr) (J : List D → Mem → Prop) (Γ' : Sl) (l : Addr) (out : List D) (M' : Mem) : Prop := ∀ s H C cl fp,
  WTs (blkOf X scope s H C cl fp) Γ' ((l, .lst out) :: M') ifs fun k M1 => (k = true → ∀ s H C cl fp, WE (blkOf X scope s H C cl fp) Γ' M1 elt fun y M2 => ∃ M3, M2 = (l, .lst out) :: M3 ∧ out.length < sizeLine ∧ J (out ++ [y]) M3) ∧ (k = false → ∃ M3, M1 = (l, .lst out) :: M3 ∧ J out M3)
/-- what a turn leaves: l's list, the others -/
def LcInv (K : PySem.W.Frag) (P : Hp) (l : Addr) (J : List D → Mem → Prop) (H : Hp) : Prop := ∃ out M' P', J out M' ∧ Ex P P' ∧ MOk K ((l, .lst out) :: M') P' H
def tsB (X : Cx) (scope : Scope) (ifs : List Expr) : TT := fun σ H Q => ∀ s H0 C cl fp, wpTs (blkOf X scope s H0 C cl fp) ifs σ H Q
def teB (X : Cx) (scope : Scope) (elt : Expr) : TE := fun σ H Q => ∀ s H0 C cl fp, wpT (blkOf X scope s H0 C cl fp) elt σ H Q
theorem lc_turn {J : List D → Mem → Prop} {Γ' : Sl} {l : Addr} {out : List D} {M' : Mem} {P P' : Hp} {σ : L2.St} {H : Hp} (t : Turn1 X scope ifs elt J Γ' l out M') (e : Ex P P') (s : SOk X.K Γ' P' σ) (m : MOk X.K ((l, .lst out) :: M') P' H) :
    tsB X scope ifs σ H fun b H3 => if b = true then teB X scope elt σ H3 fun y H4 => ∃ acc, H4 l = some (.lst acc) ∧ acc.length < sizeLine ∧ LcInv X.K P l J (upd H4 l (.lst (acc ++ [y]))) else LcInv X.K P l J H3 := by
  intro s0 H0 C cl fp pins sh I
  refine thn (t s0 H0 C cl fp P' σ H s m pins sh I) fun b sh2 ⟨H2, I2, M1, P1, q, e1, m1⟩ => ⟨H2, I2, ?_⟩
  cases b with
  | false =>
    obtain ⟨M3, e3, j3⟩ := q.2 rfl
    subst e3
    exact iteF ⟨out, M3, P1, j3, e.trans e1, m1⟩
  | true =>
    refine iteT fun s0' H0' C' cl' fp' => ?_
    refine (q.1 rfl s0' H0' C' cl' fp' P1 σ H2 (s.mono e1) m1).mono fun v H4 ⟨d, M4, P4, ⟨M3, eM, hl, j4⟩, e4, m4, i4⟩ => ?_
    subst eM
    obtain ⟨_, xs, h1, h2⟩ := m4.at_ l _ List.mem_cons_self
    refine ⟨xs, h1, by rw [h2.1]; exact hl, out ++ [d], M3, P4, j4, (e.trans e1).trans e4, ?_⟩
    exact m4.put (k := 0) rfl ⟨_, upd_same, h2.append (.cons i4 .nil)⟩
/-- [elt for x in list if ..], a list of one's own; J: what holds by the turn -/
theorem we_lcL {x : Str} {px : Pos} {j : Nat} (hN : X.N.Nodup)
    (h : WE X Γ M iter fun d M1 => ∃ (J : Nat → List D → Mem → Prop) (xs : List D), d = .lst xs ∧ J 0 [] M1 ∧
      (∀ (i : Nat) (y : D) (l : Addr) (out : List D) (M' : Mem), xs[i]? = some y → J i out M' → Turn1 X scope ifs elt (J (i + 1)) ((wipeD Γ (own.map (·.2))).set j (some y)) l out M') ∧ ∀ l out M', J xs.length out M' → Φ (.adr l) ((l, .lst out) :: M'))
    (hj : j ∈ own.map (·.2)) (ok : BlkOk X.N X.env.scope scope own) (hc : X.calm = true)
    (hg : ∀ (s : Shared) (H : Hp) (C : Addr) (cl : List (Str × Addr)) (fp : List Addr), PG (X.blk s H scope (compEnvC scope cl C X.env) fp) (.Name x px) (gName j))
    (hs : ∀ x, foldedSetIterable iter X.env x = pure x) : WE X Γ M (.ListComp elt [⟨.Name x px, iter, ifs, 0⟩] scope pos) Φ := fun P σ H s m => by
  refine wpT_of (pe_lc (tt := tsB X scope ifs) (te := teB X scope elt) hc hN (pi_list pe_wp) ok hg (fun s0 H0 C cl fp => ⟨fun pins sh σ' H' Q I q => q s0 H0 C cl fp pins sh I⟩) (fun s0 H0 C cl fp => ⟨fun pins sh σ' H' Q I q => q s0 H0 C cl fp pins sh I⟩) hs) ?_
  refine (h P σ H s m).mono fun v H1 ⟨d, M1, P1, ⟨J, xs, hd, j0, hstep, hdone⟩, e1, m1, i1⟩ => ?_
  subst hd
  cases i1 with
  | @lst a vs _ hq hl hi =>
    refine ⟨a, rfl, ⟨vs, m1.ex.seq hq⟩, fun l hn => lc_list (xs := vs) (fun i => LcInv X.K P1 l (J i)) ⟨[], M1, P1, j0, Same.refl P1, m1.own hn ⟨[], upd_same, .nil⟩⟩ (fun i H' _ ⟨out, M', P', jj, e', m'⟩ => (m'.ex.seq (e'.seq hq))) ?_ ?_⟩
    · rintro i x0 H' hx ⟨out, M', P', jj, e', m'⟩
      obtain ⟨y, hy, iy⟩ := IsDs.getV (K := X.K) (P := P1) ⟨hl, hi⟩ hx
      refine ⟨by rw [wipe_set hj, wipe_wipe], ?_⟩
      exact lc_turn (hstep i y l out M' hy jj) e' ((sok_wipe (s.mono (e1.trans e')) (own.map (·.2))).set (iy.mono e')) m'
    · rintro H' ⟨out, M', P', jj, e', m'⟩
      exact ⟨_, _, P', hdone l out M' (by rw [← hl]; exact jj), e1.trans e', m', .adr⟩
/-- [elt for x in range(a) if ..]; range(a, b) -/
theorem we_lcR1 {x : Str} {px p pos2 : Pos} {j : Nat} {a : Expr} (hN : X.N.Nodup) (hg0 : Gl X "range") (hm : X.mg "range" = none)
    (h : WA X Γ M [a] fun ds M1 => ∃ (J : Nat → List D → Mem → Prop) (n : Int), ds = [.int n] ∧ -(2 ^ 62) ≤ n ∧ n < 2 ^ 62 ∧ J 0 [] M1 ∧
      (∀ (i : Nat) (l : Addr) (out : List D) (M' : Mem), (i : Int) < n → J i out M' → Turn1 X scope ifs elt (J (i + 1)) ((wipeD Γ (own.map (·.2))).set j (some (.int (i : Int)))) l out M') ∧ ∀ l out M', J n.toNat out M' → Φ (.adr l) ((l, .lst out) :: M'))
    (hj : j ∈ own.map (·.2)) (ok : BlkOk X.N X.env.scope scope own) (hc : X.calm = true)
    (hg : ∀ (s : Shared) (H : Hp) (C : Addr) (cl : List (Str × Addr)) (fp : List Addr), PG (X.blk s H scope (compEnvC scope cl C X.env) fp) (.Name x px) (gName j))
    (hs : ∀ x, foldedSetIterable (.Call (.Name "range" p) [a] [] pos2) X.env x = pure x) (hst : starEach [a] X.env = [(false, eval a X.env)] := by rfl) : WE X Γ M (.ListComp elt [⟨.Name x px, .Call (.Name "range" p) [a] [] pos2, ifs, 0⟩] scope pos) Φ := fun P σ H s m => by
  refine wpT_of (pe_lc (tt := tsB X scope ifs) (te := teB X scope elt) hc hN (pi_range1 hg0 hm pa_wp hst) ok hg (fun s0 H0 C cl fp => ⟨fun pins sh σ' H' Q I q => q s0 H0 C cl fp pins sh I⟩) (fun s0 H0 C cl fp => ⟨fun pins sh σ' H' Q I q => q s0 H0 C cl fp pins sh I⟩) hs) ?_
  refine (h P σ H s m).mono fun vs H1 ⟨ds, M1, P1, ⟨J, n, hd, hb1, hb2, j0, hstep, hdone⟩, e1, m1, i1⟩ => ?_
  subst hd
  obtain ⟨v, rfl, hv⟩ := i1.un1
  cases hv
  refine ⟨n, rfl, hb1, hb2, fun l hn => lc_range (lo := 0) (n := n.toNat) (fun i => LcInv X.K P1 l (J i)) ⟨[], M1, P1, j0, Same.refl P1, m1.own hn ⟨[], upd_same, .nil⟩⟩ ?_ ?_⟩
  · rintro i H' hi ⟨out, M', P', jj, e', m'⟩
    refine ⟨by rw [wipe_set hj, wipe_wipe], ?_⟩
    refine lc_turn (hstep i l out M' (by omega) jj) e' ((sok_wipe (s.mono (e1.trans e')) (own.map (·.2))).set ?_) m'
    rw [Int.zero_add]
    exact .int
  · rintro H' ⟨out, M', P', jj, e', m'⟩
    exact ⟨_, _, P', hdone l out M' jj, e1.trans e', m', .adr⟩
/-- a list of one's own that an expression leaves changes no more -/
theorem we_frz {e : Expr} (h : WE X Γ M e fun d M2 => ∃ l ds M3, d = .adr l ∧ M2 = (l, .lst ds) :: M3 ∧ Φ (.lst ds) M3) : WE X Γ M e Φ := fun P σ H s m =>
  (h P σ H s m).mono fun v H2 ⟨d, M2, P2, ⟨l, ds, M3, ed, eM, q⟩, e2, m2, i2⟩ => by
    subst ed eM
    cases i2
    obtain ⟨P4, e4, m4, i4⟩ := frz_lst m2
    exact ⟨_, M3, P4, q, e2.trans e4, m4, i4⟩
end
end Dt
set_option Elab.async false
set_option linter.all false
set_option maxRecDepth 100000
set_option maxHeartbeats 2000000
namespace Dt
open PySem PySem.Spec PyProof.Rows L2
mutual
def py : D → PyData
  | .non => .none
  | .bl b => .bool b
  | .int i => .int i
  | .str x => .str x
  | .tup xs => .tuple (pys xs)
  | .lst xs => .list (pys xs)
  | .ty _ => .none
  | .obj _ _ => .none
  | .adr _ => .none
  | .dic _ => .none
  | .exc _ _ _ _ => .none
  | .exv _ _ => .none
  | .dcs _ => .none
def pys : List D → List PyData
  | [] => []
  | x :: xs => py x :: pys xs
end
mutual
def okD : D → Bool
  | .non => true
  | .bl _ => true
  | .int _ => true
  | .str _ => true
  | .tup xs => okDs xs
  | .lst xs => okDs xs
  | .ty _ => false
  | .obj _ _ => false
  | .adr _ => false
  | .dic _ => false
  | .exc _ _ _ _ => false
  | .exv _ _ => false
  | .dcs _ => false
def okDs : List D → Bool
  | [] => true
  | x :: xs => okD x && okDs xs
end
section
variable {K : PySem.W.Frag} {P H : Hp}
mutual
theorem dp_of (e : Ex P H) : ∀ (d : D) (v : V), okD d = true → IsD K P v d → Dp K H v (py d)
  | .non, _, _, h => by cases h; exact .non
  | .bl b, _, _, h => by cases h; exact .bl b
  | .int i, _, _, h => by cases h; exact .int i
  | .str x, _, _, h => by cases h; exact .str x
  | .tup xs, _, o, h => by
    cases h with
    | tup hs hl hi => exact .tup (Same.tupS e hs) (dps_of e xs _ o ⟨hl, hi⟩)
  | .lst xs, _, o, h => by
    cases h with
    | lst hs hl hi => exact .lst (e.seq hs) (dps_of e xs _ o ⟨hl, hi⟩)
  | .ty _, _, o, _ => by cases o
  | .obj _ _, _, o, _ => by cases o
  | .adr _, _, o, _ => by cases o
  | .dic _, _, o, _ => by cases o
  | .exc _ _ _ _, _, o, _ => by cases o
  | .exv _ _, _, o, _ => by cases o
  | .dcs _, _, o, _ => by cases o
theorem dps_of (e : Ex P H) : ∀ (ds : List D) (vs : List V), okDs ds = true → IsDs K P vs ds → DpAll K H vs (pys ds)
  | [], _, _, h => by
    rw [h.unnil]
    exact .nil
  | d :: ds, vs, o, h => by
    obtain ⟨v, r, rfl, hv, hr⟩ := h.uncons
    have o2 : (okD d && okDs ds) = true := o
    obtain ⟨o3, o4⟩ := Bool.and_eq_true_iff.mp o2
    exact .cons (dp_of e d v o3 hv) (dps_of e ds r o4 hr)
end
end
/-- data that == takes -/
def shp (d : D) : Bool := okD d && SeqAt.shaped (py d)
/-- what d stands for, by the objects of one's own -/
def SeenD (M : Mem) (d e : D) : Prop := d = e ∨ ∃ (k : Nat) (l : Addr) (ds : List D), d = .adr l ∧ M[k]? = some (l, .lst ds) ∧ e = .lst ds
section
variable {X : Cx} {Γ : Sl} {M : Mem} {Φ : VP} {x y : D}
theorem SeenD.dp {K : PySem.W.Frag} {P H : Hp} {d e : D} {v : V} (h : SeenD M d e) (m : MOk K M P H) (i : IsD K P v d) (o : okD e = true) : Dp K H v (py e) := by
  rcases h with rfl | ⟨k, l, ds, rfl, hk, rfl⟩
  · exact dp_of m.ex _ _ o i
  · cases i
    obtain ⟨_, xs, h1, h2⟩ := m.get hk
    exact .lst (SqL.of h1) (dps_of m.ex ds xs o h2)
theorem od_neD {x' y' : D} (hu : X.A.units + 64 < cLine) (sx : SeenD M x x') (sy : SeenD M y y') (hx : shp x' = true) (hy : shp y' = true) (q : Φ (.bl (!PyData.eqv (py x') (py y'))) M) : OpD X (compareOp .NotEq) x y M Φ := fun P H a b m ia ib => by
  obtain ⟨h1, h2⟩ := Bool.and_eq_true_iff.mp hx
  obtain ⟨h3, h4⟩ := Bool.and_eq_true_iff.mp hy
  exact opT_of (op_neD hu) ⟨_, _, sx.dp m ia h1, sy.dp m ib h3, h2, h4, .one q m .bl⟩
end
end Dt
set_option Elab.async false
set_option linter.all false
set_option maxRecDepth 100000
set_option maxHeartbeats 2000000
namespace Dt
open PySem PySem.Spec PyProof.Rows L2
theorem lk_here {f : Str} {v : D} {r : List (Str × D)} : ((f, v) :: r).lookup f = some v := by simp
section
variable {X : Cx} {Γ : Sl} {M : Mem} {Φ : VP} {a b c : Expr} {pos : Pos} {B : Bool → Mem → Prop}
/-- not x as a value -/
theorem wnotv (h : WE X Γ M a fun d M1 => TrD X d M1 fun k M2 => Φ (.bl (!k)) M2) : WE X Γ M (.UnaryOp .Not a pos) Φ := fun P σ H s m pins sh I =>
  UnaryOp_ (thn (h P σ H s m pins sh I) fun v s1 ⟨x, H1, I1, r1, d, M1, P1, q, e1, m1, i1⟩ => not_of (thn (q P1 H1 x m1 i1 pins σ s1 v I1 r1) fun c s2 ⟨H2, I2, M2, P2, q2, e2, m2⟩ => ⟨.bl (!c), H2, I2, rfl, _, M2, P2, q2, e1.trans e2, m2, .bl⟩))
end
section
variable {X : Cx} {Γ : Sl} {M : Mem} {Φ : VP} {Ψ : Po} {e o : Expr} {es : List Expr} {pos p apos : Pos} {k : Nat} {x : Str} {S : DS}
theorem wcB {id : String} (hm : X.mg x = none) (hv : bootBuiltins x = some (.builtin id)) (h : WA X Γ M (e :: es) fun ds M1 => CaD X (.builtin id) ds M1 Φ) (hg : Gl X x := by rfl) (hn : x ≠ "__name__" := by decide) (hdb : (x == ("__debug__" : Str)) = false := by decide)
    (he : starEach (e :: es) X.env = (false, eval e X.env) :: starEach es X.env := by rfl) (hpl : (backTo pos (starEach es X.env)).any (·.1) = false := by rfl) : WE X Γ M (.Call (.Name x p) (e :: es) [] pos) Φ :=
  we_callB hg hm hv hn hdb h (pe_callB ca_wp hg hm hv pa_wp hn hdb he hpl)
theorem wcT {T : String} (hm : X.mg x = none) (hv : bootBuiltins x = some (.type T)) (h : WA X Γ M (e :: es) fun ds M1 => CaD X (.type T) ds M1 Φ) (hg : Gl X x := by rfl) (hn : x ≠ "__name__" := by decide) (hdb : (x == ("__debug__" : Str)) = false := by decide)
    (he : starEach (e :: es) X.env = (false, eval e X.env) :: starEach es X.env := by rfl) (hpl : (backTo pos (starEach es X.env)).any (·.1) = false := by rfl) : WE X Γ M (.Call (.Name x p) (e :: es) [] pos) Φ :=
  we_callTy hg hm hv hn hdb h (pe_callTy ca_wp hg hm hv pa_wp hn hdb he hpl)
theorem wbt {n : String} (hm : X.mg x = none) (hv : bootBuiltins x = some (.type n)) (h : Φ (.ty n) M) (hg : Gl X x := by rfl) (hn : x ≠ "__name__" := by decide) (hd : (x == ("__debug__" : Str)) = false := by decide) : WE X Γ M (.Name x pos) Φ := we_bty hg hm hv hn hd h
theorem wgl {a : Addr} (hm : X.mg x = some (.ref a)) (h : Φ (.adr a) M) (hg : Gl X x := by rfl) (hd : (x == ("__debug__" : Str)) = false := by decide) : WE X Γ M (.Name x pos) Φ := we_glob hg hm hd h
theorem wcf (F : HasFn X.prog X.w X.K X.mg X.base k x S) (hr : Room k X.A) (h : WA X Γ M (e :: es) fun ds M1 => S ds M1 Φ) (hg : Gl X x := by rfl) (hdb : (x == ("__debug__" : Str)) = false := by decide) (he : starEach (e :: es) X.env = (false, eval e X.env) :: starEach es X.env := by rfl)
    (hpl : (backTo pos (starEach es X.env)).any (·.1) = false := by rfl) : WE X Γ M (.Call (.Name x p) (e :: es) [] pos) Φ := we_call F hr hg h hdb he hpl
end
/-- the built-in names that the module leaves alone -/
structure Bf (mg : Str → Option Value) : Prop where
  len : mg "len" = none
  all : mg "all" = none
  any : mg "any" = none
  isi : mg "isinstance" = none
  int : mg "int" = none
  bool : mg "bool" = none
  str : mg "str" = none
  tuple : mg "tuple" = none
  list : mg "list" = none
  range : mg "range" = none
  enum : mg "enumerate" = none
  zip : mg "zip" = none
  abs : mg "abs" = none
  max : mg "max" = none
  min : mg "min" = none
  sum : mg "sum" = none
  sorted : mg "sorted" = none
  repr : mg "repr" = none
  set : mg "set" = none
section
variable {X : Cx} {Γ : Sl} {M : Mem} {Φ : VP} {elt iter : Expr} {scope : Scope} {own : List (Str × Nat)} {pos : Pos}
/-- [elt for x in lst ..], each item's element told by a function of the item's data -/
theorem lcMapL {x : Str} {px : Pos} {j : Nat} (hN : X.N.Nodup) (h : WE X Γ M iter fun d M1 => ∃ (xs : List D) (g : D → D), d = .lst xs ∧ xs.length < sizeLine ∧ (∀ (i : Nat) (y : D), xs[i]? = some y → ∀ l out s H C cl fp, WE (blkOf X scope s H C cl fp) ((wipeD Γ (own.map (·.2))).set j (some y)) ((l, .lst out) :: M1) elt fun z M2 => z = g y ∧ M2 = (l, .lst out) :: M1) ∧ Φ (.lst (xs.map g)) M1)
    (ok : BlkOk X.N X.env.scope scope own) (hg : ∀ (s : Shared) (H : Hp) (C : Addr) (cl : List (Str × Addr)) (fp : List Addr), PG (X.blk s H scope (compEnvC scope cl C X.env) fp) (.Name x px) (gName j)) (hj : j ∈ own.map (·.2) := by decide) (hc : X.calm = true := by rfl)
    (hs : ∀ x, foldedSetIterable iter X.env x = pure x := by intro _; rfl) : WE X Γ M (.ListComp elt [⟨.Name x px, iter, [], 0⟩] scope pos) Φ := by
  refine we_frz (we_lcL hN (h.mono fun d M1 ⟨xs, g, hd, hl, hstep, q⟩ => ⟨fun i out M' => out = (xs.take i).map g ∧ M' = M1, xs, hd, ⟨rfl, rfl⟩, ?_, ?_⟩) hj ok hc hg hs)
  · rintro i y l out M' hy ⟨rfl, rfl⟩ s H C cl fp
    refine wts_nil ⟨fun _ s H C cl fp => (hstep i y hy l _ s H C cl fp).mono fun z M2 ⟨hz, hM⟩ => ⟨_, hM, ?_, ?_, rfl⟩, fun z => by cases z⟩
    · rw [List.length_map, List.length_take]
      omega
    · rw [List.take_add_one, hy, List.map_append, hz]
      rfl
  · rintro l out M' ⟨rfl, rfl⟩
    refine ⟨l, _, _, rfl, rfl, ?_⟩
    rw [List.take_length]
    exact q
/-- [elt for x in lst if test] -/
theorem lcMapLF {x : Str} {px : Pos} {j : Nat} {test : Expr} (hN : X.N.Nodup) (h : WE X Γ M iter fun d M1 => ∃ (xs : List D) (p : D → Bool) (g : D → D), d = .lst xs ∧ xs.length < sizeLine ∧ (∀ (i : Nat) (y : D), xs[i]? = some y → ∀ l out s H C cl fp, WT (blkOf X scope s H C cl fp) ((wipeD Γ (own.map (·.2))).set j (some y)) ((l, .lst out) :: M1) test fun k M2 => k = p y ∧ M2 = (l, .lst out) :: M1) ∧
      (∀ (i : Nat) (y : D), xs[i]? = some y → p y = true → ∀ l out s H C cl fp, WE (blkOf X scope s H C cl fp) ((wipeD Γ (own.map (·.2))).set j (some y)) ((l, .lst out) :: M1) elt fun z M2 => z = g y ∧ M2 = (l, .lst out) :: M1) ∧ Φ (.lst ((xs.filter p).map g)) M1)
    (ok : BlkOk X.N X.env.scope scope own) (hg : ∀ (s : Shared) (H : Hp) (C : Addr) (cl : List (Str × Addr)) (fp : List Addr), PG (X.blk s H scope (compEnvC scope cl C X.env) fp) (.Name x px) (gName j)) (hj : j ∈ own.map (·.2) := by decide) (hc : X.calm = true := by rfl)
    (hs : ∀ x, foldedSetIterable iter X.env x = pure x := by intro _; rfl) : WE X Γ M (.ListComp elt [⟨.Name x px, iter, [test], 0⟩] scope pos) Φ := by
  refine we_frz (we_lcL hN (h.mono fun d M1 ⟨xs, p, g, hd, hl, htest, hstep, q⟩ => ⟨fun i out M' => out = ((xs.take i).filter p).map g ∧ M' = M1, xs, hd, ⟨rfl, rfl⟩, ?_, ?_⟩) hj ok hc hg hs)
  · rintro i y l out M' hy ⟨rfl, rfl⟩ s H C cl fp
    have ht : xs.take (i + 1) = xs.take i ++ [y] := by
      rw [List.take_add_one, hy]
      rfl
    refine wts_one ((htest i y hy l _ s H C cl fp).mono fun k M2 ⟨hk, hM⟩ => ?_)
    subst hk hM
    refine ⟨fun hp s H C cl fp => (hstep i y hy hp l _ s H C cl fp).mono fun z M2 ⟨hz, hM⟩ => ⟨_, hM, ?_, ?_, rfl⟩, fun hp => ⟨_, rfl, ?_, rfl⟩⟩
    · rw [List.length_map]
      have h1 := List.length_filter_le p (xs.take i)
      rw [List.length_take] at h1
      omega
    · rw [ht, List.filter_append, List.map_append, hz, List.filter_cons, if_pos hp]
      rfl
    · rw [ht, List.filter_append, List.filter_cons, if_neg (by rw [hp]; decide)]
      simp
  · rintro l out M' ⟨rfl, rfl⟩
    refine ⟨l, _, _, rfl, rfl, ?_⟩
    rw [List.take_length]
    exact q
end
end Dt
set_option Elab.async false
set_option linter.all false
set_option maxRecDepth 100000
set_option maxHeartbeats 2000000
namespace Dt
open PySem PySem.Spec PyProof.Rows L2
section
variable {X : Cx} {Γ : Sl} {M : Mem} {Φ : VP} {x y : D} {i j v : Int}
theorem eqv_same {x : D} (h : shp x = true) : PyData.eqv (py x) (py x) = true := SeqAt.eqv_refl _ (SeqAt.canLay_of_shaped (Bool.and_eq_true_iff.mp h).2)
theorem od_neSame (hu : X.A.units + 64 < cLine) (e : x = y) (h : shp x = true) (q : Φ (.bl false) M) : OpD X (compareOp .NotEq) x y M Φ := by
  subst e
  refine od_neD hu (.inl rfl) (.inl rfl) h h ?_
  rw [eqv_same h]
  exact q
theorem od_powV (hc : 0 ≤ j ∧ j ≤ 1000000 ∧ i.natAbs < 2 ^ 64) (hv : i ^ j.toNat = v) (q : Φ (.int v) M) : OpD X (binaryOp .Pow) (.int i) (.int j) M Φ := od_pow hc (by rw [hv]; exact q)
end
def Wk (A B : Sl) : Prop := A.length = B.length ∧ ∀ (i : Nat) (d : D), A[i]? = some (some d) → B[i]? = some (some d)
theorem wkE : Wk [] [] := ⟨rfl, fun _ _ h => h⟩
theorem wkS {x : Option D} {A B : Sl} (h : Wk A B) : Wk (x :: A) (x :: B) := ⟨by rw [List.length_cons, List.length_cons, h.1], fun i d q => by
  cases i with
  | zero => exact q
  | succ i => exact h.2 i d q⟩
theorem wkN {y : Option D} {A B : Sl} (h : Wk A B) : Wk (none :: A) (y :: B) := ⟨by rw [List.length_cons, List.length_cons, h.1], fun i d q => by
  cases i with
  | zero => cases q
  | succ i => exact h.2 i d q⟩
theorem ws_wk {X : Cx} {Γ Γ' : Sl} {M M' : Mem} {sts : List Stmt} {Ψ : Po} (w : Wk Γ' Γ) (hm : M'.Sublist M) (h : WS X Γ' M' sts Ψ) : WS X Γ M sts Ψ := ws_weak h w.1 w.2 hm
end Dt
set_option Elab.async false
set_option linter.all false
set_option maxRecDepth 100000
set_option maxHeartbeats 2000000
namespace Dt
open PySem PySem.Spec PyProof.Rows L2
section
variable {P : Program} {w : World} {K : Fg} {h base : Heap} {mg : Str → Option Value} {k : Nat} {x C m qual : Str} {params : Arguments} {body : List Stmt} {scope : Scope} {fd : FuncData} {ps : List Str} {S : DS}
theorem hasFn (X : K.In h) (G : h.Ns mainGlobals mg) (F : FunD K x qual params body scope [] [] (locG x K) fd) (b : Binds K fd ps []) (g : (He.Fa.glo x).ok K = true) (F1 : FnOk P w K mg base CX0 k (locG x K) fd ps (spOf K S)) : HasFn P w K mg base k x S := ⟨_, fd, ps, F1, He.glo_ok X G g, F.kp, b⟩
end
end Dt
set_option Elab.async false
set_option linter.all false
set_option maxRecDepth 100000
set_option maxHeartbeats 2000000
namespace Dt
open PySem PySem.Spec PyProof.Rows L2
def isB (K : Fg) (C : Str) : Bool := He.eqO (PySem.W.findIn K (.ref (He.ga K C)) "__class__") (some (some (.builtin "object.__class__"))) && He.eqO (PySem.W.specialIn K (.builtin "object.__class__") "__get__") (some (some (.builtin "getset_descriptor.__get__"))) && decide (PySem.W.takesIn K (.builtin "object.__class__") = some true) && decide (PySem.W.mroIn K (He.ga K C) (.type "object") = some true)
end Dt
set_option Elab.async false
set_option linter.all false
set_option maxRecDepth 100000
set_option maxHeartbeats 2000000
namespace Dt
open PySem PySem.Spec PyProof.Rows L2
/-- lo, .., hi -/
def rr (lo hi : Int) : List Int := (List.range (hi - lo + 1).toNat).map fun k : Nat => lo + (k : Int)
end Dt
set_option Elab.async false
set_option linter.all false
set_option maxRecDepth 100000
set_option maxHeartbeats 2000000
namespace Dt
open PySem PySem.Spec PyProof.Rows L2
theorem getMap {α : Type} {f : α → D} {L : List α} {i : Nat} {y : D} (h : (L.map f)[i]? = some y) : ∃ z, L[i]? = some z ∧ y = f z := by
  rw [List.getElem?_map] at h
  cases e : L[i]? with
  | none => rw [e] at h; cases h
  | some z =>
    rw [e] at h
    cases h
    exact ⟨z, rfl, rfl⟩
end Dt
set_option Elab.async false
set_option linter.all false
set_option maxRecDepth 100000
set_option maxHeartbeats 2000000
namespace Dt
open PySem PySem.Spec PyProof.Rows L2
section
variable {X : Cx} {Γ : Sl} {M : Mem} {Ψ : Po} {elt iter : Expr} {ifs : List Expr} {scope : Scope} {own : List (Str × Nat)} {pos spos py : Pos} {sts : List Stmt} {y : Str}
/-- y = [elt for x in range(a) if ..], a list of one's own -/
theorem ws_lcR1 (iy : Nat) {x : Str} {px p pos2 : Pos} {j : Nat} {a : Expr} (hN : X.N.Nodup) (hm : X.mg "range" = none)
    (h : WA X Γ M [a] fun ds M1 => ∃ (J : Nat → List D → Mem → Prop) (n : Int), ds = [.int n] ∧ -(2 ^ 62) ≤ n ∧ n < 2 ^ 62 ∧ J 0 [] M1 ∧
      (∀ (i : Nat) (l : Addr) (out : List D) (M' : Mem), (i : Int) < n → J i out M' → Turn1 X scope ifs elt (J (i + 1)) ((wipeD Γ (own.map (·.2))).set j (some (.int (i : Int)))) l out M') ∧ ∀ l out M', J n.toNat out M' → WS X (Γ.set iy (some (.adr l))) ((l, .lst out) :: M') sts Ψ)
    (ok : BlkOk X.N X.env.scope scope own)
    (hg : ∀ (s : Shared) (H : Hp) (C : Addr) (cl : List (Str × Addr)) (fp : List Addr), PG (X.blk s H scope (compEnvC scope cl C X.env) fp) (.Name x px) (gName j)) (hj : j ∈ own.map (·.2) := by decide)
    (hsw : swapsWith (.ListComp elt [⟨.Name x px, .Call (.Name "range" p) [a] [] pos2, ifs, 0⟩] scope pos) (some (.Name y py)) spos.line X.env = pure true := by exact sw_true rfl rfl rfl (by decide +kernel)) (hc : X.calm = true := by rfl) (hg0 : Gl X "range" := by rfl)
    (hy : X.N[iy]? = some y := by rfl) (hyl : X.env.scope.names.lookup y = some .local := by rfl)
    (hs : ∀ x, foldedSetIterable (.Call (.Name "range" p) [a] [] pos2) X.env x = pure x := by intro _; rfl) (hst : starEach [a] X.env = [(false, eval a X.env)] := by rfl) : WS X Γ M (.Assign [.Name y py] (.ListComp elt [⟨.Name x px, .Call (.Name "range" p) [a] [] pos2, ifs, 0⟩] scope pos) spos :: sts) Ψ := ws_cons fun P σ H s m => by
  refine wpS_of (ps_setLc (i := iy) (tt := tsB X scope ifs) (te := teB X scope elt) hc hN hy hyl hsw (pi_range1 hg0 hm pa_wp hst) ok hg (fun s0 H0 C cl fp => ⟨fun pins sh σ' H' Q I q => q s0 H0 C cl fp pins sh I⟩) (fun s0 H0 C cl fp => ⟨fun pins sh σ' H' Q I q => q s0 H0 C cl fp pins sh I⟩) hs) ?_
  refine (h P σ H s m).mono fun vs H1 ⟨ds, M1, P1, ⟨J, n, hd, hb1, hb2, j0, hstep, hdone⟩, e1, m1, i1⟩ => ?_
  subst hd
  obtain ⟨v, rfl, hv⟩ := i1.un1
  cases hv
  refine ⟨n, rfl, hb1, hb2, fun l hn => lc_range (lo := 0) (n := n.toNat) (fun i => LcInv X.K P1 l (J i)) ⟨[], M1, P1, j0, Same.refl P1, m1.own hn ⟨[], upd_same, .nil⟩⟩ ?_ ?_⟩
  · rintro i H' hi ⟨out, M', P', jj, e', m'⟩
    refine ⟨by rw [wipe_set hj, wipe_wipe], ?_⟩
    refine lc_turn (hstep i l out M' (by omega) jj) e' ((sok_wipe (s.mono (e1.trans e')) (own.map (·.2))).set ?_) m'
    rw [Int.zero_add]
    exact .int
  · rintro H' ⟨out, M', P', jj, e', m'⟩
    exact ⟨_, _, P', hdone l out M' jj, e1.trans e', (s.mono (e1.trans e')).set .adr, m'⟩
end
def cutD (xs : List D) (lo hi : Option Int) : List D := (xs.drop (HT.sIx xs.length 0 lo)).take (HT.sIx xs.length xs.length hi - HT.sIx xs.length 0 lo)
theorem isDs_cut {K : PySem.W.Frag} {P : Hp} {xs : List V} {ds : List D} (h : IsDs K P xs ds) (lo hi : Option Int) : IsDs K P (cutV xs lo hi) (cutD ds lo hi) := by
  have hl := h.1
  unfold cutV cutD
  rw [hl]
  refine ⟨by rw [List.length_take, List.length_take, List.length_drop, List.length_drop, hl], fun i x d a b => ?_⟩
  rw [List.getElem?_take, List.getElem?_drop] at a b
  by_cases hlt : i < HT.sIx ds.length ds.length hi - HT.sIx ds.length 0 lo
  · rw [if_pos hlt] at a b
    exact h.2 _ x d a b
  · rw [if_neg hlt] at a
    cases a
/-- a part of a slice -/
def WO (X : Cx) (Γ : Sl) (M : Mem) : Option Expr → (Option Int → Mem → Prop) → Prop
  | none, Φ => Φ none M
  | some e, Φ => WE X Γ M e fun d M1 => ∃ i, d = .int i ∧ Φ (some i) M1
section
variable {X : Cx} {Γ : Sl} {M : Mem} {Φ : VP} {e : Expr} {lo hi : Option Expr} {pos p2 : Pos}
def tO (X : Cx) : Option Expr → TO
  | none => tNoPart
  | some e => tPart (wpT X e)
theorem po_wp : ∀ o : Option Expr, PO X o (tO X o)
  | none => po_none
  | some e => po_some pe_wp
theorem wo_run {o : Option Expr} {F : Option Int → Mem → Prop} {P : Hp} {σ : L2.St} {H : Hp} (h : WO X Γ M o F) (s : SOk X.K Γ P σ) (m : MOk X.K M P H) {Q : Option Int → Hp → Prop} (q : ∀ i M1 P1 H1, F i M1 → Ex P P1 → MOk X.K M1 P1 H1 → Q i H1) : tO X o σ H Q := by
  cases o with
  | none => exact q _ _ P H h (Same.refl P) m
  | some e =>
    refine (h P σ H s m).mono fun v H1 ⟨d, M1, P1, ⟨i, ed, z⟩, e1, m1, i1⟩ => ?_
    subst ed
    cases i1
    exact ⟨i, rfl, q _ _ P1 H1 z e1 m1⟩
/-- xs[a:b], a new list of one's own -/
theorem we_slO (h : WE X Γ M e fun d M1 => WO X Γ M1 lo fun i M2 => WO X Γ M2 hi fun j M3 => ∃ ds, (d = .lst ds ∨ ∃ (k : Nat) (l : Addr), d = .adr l ∧ M3[k]? = some (l, .lst ds)) ∧ ∀ l, Φ (.adr l) ((l, .lst (cutD ds i j)) :: M3)) : WE X Γ M (.Subscript e (.Slice lo hi none p2) pos) Φ := fun P σ H s m => by
  refine wpT_of (pe_slice sl_list pe_wp (po_wp lo) (po_wp hi)) ((h P σ H s m).mono fun v H1 ⟨d, M1, P1, q, e1, m1, i1⟩ => wo_run q (s.mono e1) m1 fun i M2 P2 H2 q2 e2 m2 => wo_run q2 (s.mono (e1.trans e2)) m2 fun j M3 P3 H3 ⟨ds, hd, q3⟩ e3 m3 => ?_)
  have e13 := (e1.trans e2).trans e3
  have i3 := (i1.mono e2).mono e3
  rcases hd with rfl | ⟨k, l, rfl, hk⟩
  · cases i3 with
    | lst hs hl hi => exact ⟨_, _, rfl, m3.ex.seq hs, fun p hp => ⟨_, _, P3, q3 p, e13, m3.own hp ⟨_, upd_same, isDs_cut ⟨hl, hi⟩ i j⟩, .adr⟩⟩
  · cases i3
    obtain ⟨_, xs, h1, h2⟩ := m3.get hk
    exact ⟨_, _, rfl, SqL.of h1, fun p hp => ⟨_, _, P3, q3 p, e13, m3.own hp ⟨_, upd_same, isDs_cut h2 i j⟩, .adr⟩⟩
/-- xs[::-1], a new list of one's own -/
theorem we_revO {kk : Nat} {p1 p2 p3 : Pos} (h : WE X Γ M e fun d M1 => ∃ ds, (d = .lst ds ∨ ∃ (k : Nat) (l : Addr), d = .adr l ∧ M1[k]? = some (l, .lst ds)) ∧ ∀ l, Φ (.adr l) ((l, .lst ds.reverse) :: M1)) : WE X Γ M (.Subscript e (.Slice none none (some (.UnaryOp .USub (.Constant (.int 1) kk p1) p2)) p3) pos) Φ := fun P σ H s m => by
  refine wpT_of (pe_revL pe_wp) ((h P σ H s m).mono fun v H1 ⟨d, M1, P1, ⟨ds, hd, q⟩, e1, m1, i1⟩ => ?_)
  have rev : ∀ {xs : List V}, IsDs X.K P1 xs ds → IsDs X.K P1 xs.reverse ds.reverse := fun {xs} z => by
    refine ⟨by rw [List.length_reverse, List.length_reverse, z.1], fun i x d a b => ?_⟩
    have hi : i < xs.length := by
      have := (List.getElem?_eq_some_iff.mp a).1
      rwa [List.length_reverse] at this
    rw [List.getElem?_reverse hi] at a
    rw [List.getElem?_reverse (by rw [← z.1]; exact hi), ← z.1] at b
    exact z.2 _ x d a b
  rcases hd with rfl | ⟨k, l, rfl, hk⟩
  · cases i1 with
    | lst hs hl hi => exact ⟨_, _, rfl, m1.ex.seq hs, fun p hp => ⟨_, _, P1, q p, e1, m1.own hp ⟨_, upd_same, rev ⟨hl, hi⟩⟩, .adr⟩⟩
  · cases i1
    obtain ⟨_, xs, h1, h2⟩ := m1.get hk
    exact ⟨_, _, rfl, SqL.of h1, fun p hp => ⟨_, _, P1, q p, e1, m1.own hp ⟨_, upd_same, rev h2⟩, .adr⟩⟩
end
end Dt
set_option Elab.async false
set_option linter.all false
set_option maxRecDepth 100000
set_option maxHeartbeats 2000000
namespace Dt
open PySem PySem.Spec PyProof.Rows L2
section
variable {X : Cx} {Γ : Sl} {M : Mem} {Φ : VP} {e : Expr}
theorem wo_none {F : Option Int → Mem → Prop} (h : F none M) : WO X Γ M none F := h
theorem wo_some {F : Option Int → Mem → Prop} (h : WE X Γ M e fun d M1 => ∃ i, d = .int i ∧ F (some i) M1) : WO X Γ M (some e) F := h
theorem eqv_is : ∀ as bs : List Int, PyData.eqvAll (pys (as.map D.int)) (pys (bs.map D.int)) = decide (as = bs)
  | [], [] => rfl
  | [], b :: bs => rfl
  | a :: as, [] => rfl
  | a :: as, b :: bs => by
    show (PyData.eqv (.int a) (.int b) && PyData.eqvAll (pys (as.map D.int)) (pys (bs.map D.int))) = _
    rw [eqv_is as bs, Bool.eq_iff_iff]
    simp only [PyData.eqv, Bool.and_eq_true, beq_iff_eq, decide_eq_true_eq, List.cons.injEq]
theorem ok_is : ∀ ps : List Int, okDs (ps.map D.int) = true
  | [] => rfl
  | a :: as => by
    show (okD (.int a) && okDs (as.map D.int)) = true
    rw [ok_is as]
    rfl
theorem lay_is : ∀ ps : List Int, PyData.canLayAll0 (pys (ps.map D.int)) = true
  | [] => rfl
  | a :: as => by
    show PyData.canLayAll0 (.int a :: pys (as.map D.int)) = true
    simp only [PyData.canLayAll0, lay_is as, Bool.and_true]
    rfl
theorem deep_is : ∀ ps : List Int, PyData.depthAll (pys (ps.map D.int)) ≤ 1
  | [] => Nat.zero_le _
  | a :: as => by
    show max (PyData.depth (.int a)) (PyData.depthAll (pys (as.map D.int))) ≤ 1
    exact Nat.max_le.mpr ⟨(show 0 ≤ 1 from Nat.zero_le 1), deep_is as⟩
theorem shp_is (ps : List Int) : shp (.lst (ps.map D.int)) = true := by
  unfold shp SeqAt.shaped
  rw [show okD (.lst (ps.map D.int)) = true from ok_is ps, Bool.true_and, show PyData.canLay0 (py (.lst (ps.map D.int))) = true from lay_is ps, Bool.true_and]
  refine decide_eq_true ?_
  show PyData.depthAll (pys (ps.map D.int)) + 1 ≤ 64
  have := deep_is ps
  omega
/-- xs != [] of a list of numbers -/
theorem od_neI0 {k : Nat} {l : Addr} {gs : List Int} (hu : X.A.units + 64 < cLine) (hk : M[k]? = some (l, .lst (gs.map D.int))) (q : Φ (.bl (!decide (gs = []))) M) : OpD X (compareOp .NotEq) (.adr l) (.lst []) M Φ := by
  refine od_neD (x' := .lst (gs.map D.int)) (y' := .lst []) hu (.inr ⟨k, l, _, rfl, hk, rfl⟩) (.inl rfl) (shp_is gs) rfl ?_
  have e : PyData.eqv (py (.lst (gs.map D.int))) (py (.lst [])) = decide (gs = []) := eqv_is gs []
  rw [e]
  exact q
end
def gI (f : Int → Int) : D → D
  | .int i => .int (f i)
  | d => d
def pI (p : Int → Bool) : D → Bool
  | .int i => p i
  | _ => false
theorem map_gI (f : Int → Int) (is : List Int) : (is.map D.int).map (gI f) = (is.map f).map D.int := by
  rw [List.map_map, List.map_map]
  rfl
theorem filt_pI (p : Int → Bool) : ∀ is : List Int, ((is.map D.int).filter (pI p)).map (fun y => y) = (is.filter p).map D.int
  | [] => rfl
  | a :: as => by
    have ih := filt_pI p as
    rw [List.map_cons, List.filter_cons, List.filter_cons]
    show (if p a = true then _ else _ : List D).map _ = _
    split
    · rw [List.map_cons, ih]
      rfl
    · exact ih
def cutL {α : Type} (xs : List α) (lo hi : Option Int) : List α := (xs.drop (HT.sIx xs.length 0 lo)).take (HT.sIx xs.length xs.length hi - HT.sIx xs.length 0 lo)
theorem cut_map {α : Type} (f : α → D) (xs : List α) (lo hi : Option Int) : cutD (xs.map f) lo hi = (cutL xs lo hi).map f := by
  unfold cutD cutL
  rw [List.length_map, List.map_take, List.map_drop]
theorem cut_len {α : Type} (xs : List α) (lo hi : Option Int) : (cutL xs lo hi).length ≤ xs.length := by
  unfold cutL
  rw [List.length_take, List.length_drop]
  omega
def put2 (M : Mem) (k : Nat) (l l2 : Addr) (gs : List Int) (m : Int) : Mem := (M.set k (l, .lst [.adr l2, .int m])).set (k + 1) (l2, .lst (gs.map D.int))
section
variable {M : Mem} {k : Nat} {l l2 : Addr} {gs gs' : List Int} {m m' : Int} {x : Addr × MO}
theorem put2_self (h0 : M[k]? = some (l, .lst [.adr l2, .int m])) (h1 : M[k + 1]? = some (l2, .lst (gs.map D.int))) : put2 M k l l2 gs m = M := by
  obtain ⟨a0, e0⟩ := List.getElem?_eq_some_iff.mp h0
  obtain ⟨a1, e1⟩ := List.getElem?_eq_some_iff.mp h1
  unfold put2
  rw [← e0, List.set_getElem_self, ← e1, List.set_getElem_self]
theorem put2_put2 : put2 (put2 M k l l2 gs m) k l l2 gs' m' = put2 M k l l2 gs' m' := by
  unfold put2
  rw [List.set_comm _ _ (show k + 1 ≠ k by omega), List.set_set, List.set_set]
theorem get2_0 (h : k + 1 < M.length) : (put2 M k l l2 gs m)[k]? = some (l, .lst [.adr l2, .int m]) := by
  unfold put2
  rw [List.getElem?_set_ne (by omega), List.getElem?_set_self (by omega)]
theorem get2_1 (h : k + 1 < M.length) : (put2 M k l l2 gs m)[k + 1]? = some (l2, .lst (gs.map D.int)) := by
  unfold put2
  rw [List.getElem?_set_self (by rw [List.length_set]; exact h)]
theorem deal_put (h : k + 1 < M.length) (g : Good gs m) : DealAt (put2 M k l l2 gs m) k l l2 := ⟨gs, m, g, get2_0 h, get2_1 h⟩
theorem deal_cons (h : DealAt M k l l2) : DealAt (x :: M) (k + 1) l l2 := h
theorem put2_cons : put2 (x :: M) (k + 1) l l2 gs m = x :: put2 M k l l2 gs m := rfl
theorem put2_pop {ys : List Int} {y : Int} : (put2 M k l l2 (ys ++ [y]) m).set (k + 1) (l2, .lst ((ys ++ [y]).map D.int).dropLast) = put2 M k l l2 ys m := by
  unfold put2
  rw [List.set_set, List.map_append, List.map_cons, List.map_nil, List.dropLast_concat]
theorem put2_push {ys : List Int} {y : Int} : (put2 M k l l2 ys m).set (k + 1) (l2, .lst (ys.map D.int ++ [.int y])) = put2 M k l l2 (ys ++ [y]) m := by
  unfold put2
  rw [List.set_set, List.map_append, List.map_cons, List.map_nil]
theorem put2_set1 : (put2 M k l l2 gs m).set k (l, .lst [.adr l2, .int m']) = put2 M k l l2 gs m' := by
  unfold put2
  rw [List.set_comm _ _ (show k + 1 ≠ k by omega), List.set_set]
theorem last_ints {ys : List Int} {y : Int} : atI ((ys ++ [y]).map D.int) (-1) = some (.int y) := by
  rw [List.map_append]
  exact atI_last _ _
theorem last_ints2 {ys : List Int} {y : Int} : ((ys ++ [y]).map D.int)[((ys ++ [y]).map D.int).length - 1]? = some (.int y) := by
  rw [List.map_append, List.map_cons, List.map_nil, List.length_append]
  simp
theorem snoc_cases (gs : List Int) : gs = [] ∨ ∃ ys y, gs = ys ++ [y] := by
  rcases List.eq_nil_or_concat gs with h | ⟨ys, y, h⟩
  · exact .inl h
  · exact .inr ⟨ys, y, by rw [h, List.concat_eq_append]⟩
theorem Good.pop {ys : List Int} {y : Int} (h : Good (ys ++ [y]) m) : Good ys m ∧ 0 ≤ y := by
  obtain ⟨h1, h2, h3, h4⟩ := h
  rw [List.length_append] at h2
  exact ⟨⟨fun g hg => h1 g (List.mem_append_left _ hg), by omega, h3, h4⟩, h1 y (List.mem_append_right _ List.mem_cons_self)⟩
end
end Dt
set_option Elab.async false
set_option linter.all false
set_option maxRecDepth 100000
set_option maxHeartbeats 2000000
set_option Elab.async false
set_option linter.all false
set_option maxRecDepth 100000
set_option maxHeartbeats 4000000
set_option Elab.async false
set_option linter.all false
set_option maxRecDepth 100000
set_option maxHeartbeats 4000000
namespace Dt
open PySem PySem.Spec PyProof.Rows L2
/-- what the class at C and its __init__ must be -/
structure SupC (P : Program) (K : PySem.W.Frag) (C cc cda : Addr) (x : Str) : Prop where
  oex : OexC K C
  along : PySem.W.ks_superIn K C C "__init__" = some (some (.builtin "ValueError.__init__"))
  sub : PySem.W.mroIn K C (.ref C) = some true
  val : PySem.W.subIn K (.ref C) (.type "ValueError") = some true
  opq : PySem.W.nsIn K cStatics "thirdparty.any" = some none
  noa : PySem.W.findIn K (.ref C) x = some none
  sup : PySem.W.nsIn K mainGlobals "super" = some none
  cell : ∃ cl cld csl, K.lookup cc = some ⟨cl, cld, .cell (some (.ref C)), csl⟩
  code : ∃ ccl cdd vs ccs file tf, K.lookup cda = some ⟨ccl, cdd, .fields vs, ccs⟩ ∧ vs[2]? = some (.str file tf) ∧ ((P.main.file : Str) == file) = true
  top : (P.main.scope.names.lookup ("super" : Str)).isSome = false
section
variable {P : Program} {w : World} {A : Around} {E : Value → Shared → Prop} {hp : Heap} {g : Array GenState} {d : Drawn} {t : Nat} {os : OsState} {K : PySem.W.Frag} {C a u : Addr}
/-- the bound built-in __init__ is called -/
theorem callMw {rest : List Value} {t0 : Addr} {Q : Value → Shared → Prop} (T : OexC K C) (X : K.In hp) (hu : hp.get? u = some (PySem.W.kxs_mw "ValueError.__init__" a)) (ha : hp.get? a = some (PySem.W.excObj C t0 none .none)) (hz : rest.length ≤ sizeLine)
    (h : ∀ h' t1, (∀ b o, b ≠ a → hp.get? b = some o → h'.get? b = some o) → h'.get? a = some (PySem.W.excObj C t1 none .none) → Q .none ⟨h', g, d, t, os⟩) : wpAny (model P w) A (call (.ref u) rest) Q E ⟨hp, g, d, t, os⟩ := by
  obtain ⟨nm, q, N, bs, bm, sn, sub, ab, col, dd, k0, k1, k2, k3, k5, hC, _⟩ := T.cls
  have hb := F.excBase_ValueError
  refine wpAny_call (codeAny_of_tree (show wpAny _ A.in1 (callAny (.ref u) ⟨rest, []⟩) _ _ _ from ?_))
  simp only [callAny]
  refine wpAny_bind (wpAny_load hu ?_)
  have e : (Value.type "method-wrapper" == Value.type "method" || Value.type "method-wrapper" == Value.type "builtin_function_or_method" || Value.type "method-wrapper" == Value.type "method-wrapper") = true := by decide
  simp only [PySem.W.kxs_mw, e, if_true]
  refine PySem.W.KFB.if_so (by decide) (wpAny_bind (PySem.W.check_bound_init hb.toExcCallFacts (X _ _ hC) ha rfl (wpAny_bind (wpAny_pure (wpAny_pure ⟨plainId_quiet hb.init.plain _, codeAny_builtin hb.initEntry ?_⟩)))))
  exact PySem.W.exc_init_tree (cls := .ref C) (c2 := .none) (c3 := .none) (b4 := .bool false) ha hz fun h' k1 k2 _ => h h' _ k1 k2
end
/-- the promise of such an __init__ -/
def spSup (C : Addr) (x : Str) : Sp := fun vs H Q _ => ∃ a y, vs = [.ref a, y] ∧ H a = some (exo a C none) ∧ ∀ dx, H dx = none → dx ≠ a → Q .non (upd (upd H dx (exd dx [(x, y)])) a (exo a C (some dx)))
/-- the scope of such an __init__ -/
structure SupS (scope : Scope) (x : Str) : Prop where
  kind : scope.kind = .function
  co : scope.isCoroutine = false
  gen : scope.isGenerator = false
  sup : scope.names.lookup ("super" : Str) = some .globalImplicit
  cls : scope.names.lookup ("__class__" : Str) = some .free
  self : scope.names.lookup ("self" : Str) = some .local
  arg : scope.names.lookup x = some .local
  noc : ∀ z, z ∈ scope.names → z.2 ≠ .cell
  fre : ∀ z, z ∈ scope.names → z.2 = .free → z.1 = ("__class__" : Str)
section
variable {P : Program} {w : World} {K : PySem.W.Frag} {mg : Str → Option Value} {base : Heap} {C cc cda f : Addr} {x name qual : Str} {params : Arguments} {scope : Scope} {dV kV doc pm ct oc : Value} {an od : Option Addr} {osl : Array (Option Value)} {ar : Arg}
/-- the context of its body -/
abbrev cxS (CX : CXT) (P : Program) (w : World) (K : PySem.W.Frag) (mg : Str → Option Value) (base : Heap) (x qual : Str) (scope : Scope) (f cda cc : Addr) (A : Around) (outer : List Env) (s : Shared) (H : Hp) (E : XK) : Cx :=
  { prog := P, w := w, K := K, mg := mg, base := base, A := A.deeper (PySem.W.ksEnv qual scope s.heap.objs.size f (.ref cda) cc), N := ["self", x], s_0 := s, H_0 := H, env := PySem.W.ksEnv qual scope s.heap.objs.size f (.ref cda) cc, outer := outer,
    stack := PySem.W.ksEnv qual scope s.heap.objs.size f (.ref cda) cc :: outer, ex := [], calm := true, fn := fun y => y != "__class__", pn := [],
    xe := fun e s' => wpAny (model P w) (A.deeper (PySem.W.ksEnv qual scope s.heap.objs.size f (.ref cda) cc)) (leaving (PySem.W.ksEnv qual scope s.heap.objs.size f (.ref cda) cc) e) (fun _ s'' => CX outer H s E e s'') (fun e' s'' => CX outer H s E e' s'') s' }
theorem lk_mem {l : List (Str × NameKind)} {y : Str} {z : NameKind} (h : l.lookup y = some z) : (y, z) ∈ l := PySem.mem_of_lookup h
theorem inv_sup {CX : CXT} {A : Around} {outer : List Env} {s : Shared} {H : Hp} {E : XK} {h0 : Heap} {tk : Nat} {a : Addr} {y : V} {u1 : Value} (S : SupC P K C cc cda x) (Sc : SupS scope x) (hx : x ≠ "self") (hx2 : x ≠ "__class__") (hd : A.handled = none) (e0 : Env0 P w K mg base A outer s H)
    (hns : h0.Ns s.heap.objs.size (fun z => ([("self", Value.ref a), (x, u1)] : List (Str × Value)).reverse.lookup z)) (hk : ∀ b o, s.heap.get? b = some o → h0.get? b = some o) (ru : RelV y u1) :
    Inv (cxS CX P w K mg base x qual scope f cda cc A outer s H E) [] [some (.ref a), some y] H { s with heap := h0, toks := tk } := by
  obtain ⟨cl, cld, csl, hcell⟩ := S.cell
  have hbc := e0.mod.kin _ _ hcell
  have hclk : ∀ z c, (PySem.W.ksEnv qual scope s.heap.objs.size f (.ref cda) cc).cells.lookup z = some c → z = "__class__" ∧ c = cc := fun z c h => by
    have h : ([(("__class__" : Str), cc)] : List (Str × Addr)).lookup z = some c := h
    by_cases hz : z = "__class__"
    · subst hz
      simp at h
      exact ⟨rfl, h.symm⟩
    · have : (z == ("__class__" : Str)) = false := by simpa using hz
      rw [List.lookup_cons, this] at h
      cases h
  refine ⟨⟨e0.mod, Sc.kind, rfl, rfl, Nat.le_refl _, fun z1 z2 c h1 h2 => ?_, fun z hz => ?_, fun z c h1 h2 => ?_, fun _ => hd, Around.frames_deeper e0.frames, .inr ⟨rfl, rfl⟩, fun b z => absurd z (by simp), e0.bs, e0.bsz, fun b _ _ => (by simp), fun b z => absurd z (by simp), e0.funs, e0.frf⟩,
    rfl, e0.bare, Un.kept hk, ⟨_, hns, fun i z v h1 h2 h3 => ?_⟩, fun z c h => ?_, e0.hok.fresh (Nat.le_refl _), fun z c h => ?_, fun p hp => absurd hp (by simp), e0.hok.kept hk, rfl⟩
  · rw [(hclk z1 c h1).1, (hclk z2 c h2).1]
  · have hz : scope.names.lookup z = some .cell ∨ scope.names.lookup z = some .free := hz
    rcases hz with hz | hz
    · exact absurd rfl (Sc.noc _ (lk_mem hz))
    · have e := Sc.fre _ (lk_mem hz) rfl
      dsimp only at e
      subst e
      exact ⟨cc, by simp⟩
  · obtain ⟨e, _⟩ := hclk z c h2
    subst e
    cases h1
  · match i, h1, h2 with
    | 0, h1, h2 =>
      cases h1
      cases h2
      refine ⟨.ref a, rfl, .inl ⟨Sc.self, ?_⟩⟩
      have : (("self" : Str) == x) = false := by simpa using hx.symm
      simp [List.lookup_cons, this]
    | 1, h1, h2 =>
      cases h1
      cases h2
      exact ⟨u1, ru, .inl ⟨Sc.arg, by simp⟩⟩
    | i + 2, h1, h2 => simp at h1
  · obtain ⟨_, e⟩ := hclk z c h
    subst e
    exact ⟨_, _, hk _ _ (e0.bs _ _ hbc).1, rfl⟩
  · obtain ⟨_, e⟩ := hclk z c h
    subst e
    exact (e0.bs _ _ hbc).2
/-- THE RULE: the def itself -/
theorem fn_sup {CX : CXT} {k : Nat} {p0 p1 p2 p3 p4 p5 p6 p7 p8 p9 : Pos} {pl : Sem Bool}
    (lk : K.lookup f = some ⟨oc, od, .func (PySem.W.ksFn name qual params [.Expr (.Call (.Attribute (.Call (.Name "super" p0) [] [] p1) "__init__" p2) [.Name x p3] [] p4) p5, .Assign [.Attribute (.Name "self" p6) x p7] (.Name x p8) p9] scope dV kV doc pm an (.ref cda) ct cc), osl⟩)
    (hcd : PySem.W.codeIn K (.ref cda) qual = true) (S : SupC P K C cc cda x) (Sc : SupS scope x) (hx : x ≠ "self") (hx2 : x ≠ "__class__") (hdb : (x == ("__debug__" : Str)) = false) (hdc : (x == ("__classdict__" : Str)) = false)
    (hp : (params.posonlyargs ++ params.args).head? = some ar) (har : ar.arg = "self")
    (hev : ∀ env : Env, eval (.Call (.Attribute (.Call (.Name "super" p0) [] [] p1) "__init__" p2) [.Name x p3] [] p4) env = (do
      let ov ← attributeBase (.Call (.Name "super" p0) [] [] p1) "__init__" env (eval (.Call (.Name "super" p0) [] [] p1) env)
      standAt p2.atName
      let (f, first) ← holding [ov] (getMethod ov "__init__" pl)
      callWith p4 f first (backTo p4 (starEach [.Name x p3] env)) []))
    (hsw : ∀ env : Env, swapsWith (.Call (.Attribute (.Call (.Name "super" p0) [] [] p1) "__init__" p2) [.Name x p3] [] p4) none p5.line env = pure false) (hsw2 : ∀ env : Env, swapsWith (.Name x p8) (some (.Attribute (.Name "self" p6) x p7)) p9.line env = pure false) :
    FnOk P w K mg base CX (k + 1) f (PySem.W.ksFn name qual params [.Expr (.Call (.Attribute (.Call (.Name "super" p0) [] [] p1) "__init__" p2) [.Name x p3] [] p4) p5, .Assign [.Attribute (.Name "self" p6) x p7] (.Name x p8) p9] scope dV kV doc pm an (.ref cda) ct cc) ["self", x] (spSup C x) := by
  refine ⟨fun vs H Q E ⟨a, y, e, _⟩ => by rw [e]; rfl, fun A outer s H args us vs Q E hr e0 hb r hsp => ?_⟩
  obtain ⟨a, y, rfl, ha, hq⟩ := hsp
  obtain ⟨u1, rfl, ru1⟩ : ∃ u1, us = [.ref a, u1] ∧ RelV y u1 := by
    cases r with
    | cons r0 r1 =>
      cases r1 with
      | cons r1 r2 =>
        cases r2
        cases r0
        exact ⟨_, rfl, r1⟩
  have KX : K.In s.heap := e0.mod.kin.keeps fun b o e => (e0.bs b o e).1
  have lim : s.heap.NoLimit := e0.mod.nolimit.keeps fun b o e => (e0.bs b o e).1
  refine ks_codeAny_call_defAt (binds := [("self", .ref a), (x, u1)]) hr.depth (KX _ _ lk) rfl lim (PySem.W.codeRec_of KX hcd) rfl hb Sc.noc (fun z hz => ?_) (fun h0 hns hk => ?_) Sc.co Sc.gen Sc.kind
  · simp only [List.mem_cons, List.not_mem_nil, or_false] at hz
    rcases hz with rfl | rfl
    · exact Sc.self
    · exact Sc.arg
  have I := inv_sup (CX := CX) (E := E) (tk := s.toks + 2) (qual := qual) (f := f) S Sc hx hx2 hr.hd e0 hns hk ru1
  obtain ⟨t0, ho⟩ := exo_at I.hok ha
  have KX0 : K.In h0 := I.kIn
  obtain ⟨ccl, cdd, vs, ccs, file, tf, hcode, hvs, hfile⟩ := S.code
  obtain ⟨cl, cld, csl, hcell⟩ := S.cell
  obtain ⟨nm, q, N, bs, bm, sn, sub, ab, col, dd, k0, k1, k2, k3, k5, hC, hbm⟩ := S.oex.cls
  obtain ⟨mb, hmb, hmb2⟩ := e0.mod.blt
  have hst : base.StaysIn h0 := fun b o e => hk b o (e0.bs b o e).1
  obtain ⟨hh, g, d, tk, os⟩ := s
  have hcl : PySem.W.clsIn K C = some { name := nm, bases := bs, mro := .ref C :: bm, ns := N, qualname := q, hasDict := true, slotNames := sn, subclasses := sub, abstract := ab, collection := col, hasDel := false } := by unfold PySem.W.clsIn; rw [hC] <;> rfl
  have hal := S.along
  unfold PySem.W.ks_superIn at hal
  rw [hcl, Option.bind_some] at hal
  have J0 : PySem.W.InstAt h0 a _ C none := ⟨ho, rfl, rfl, trivial⟩
  have hin : interactive (PySem.W.ksEnv qual scope hh.objs.size f (.ref cda) cc) = false := by
    unfold interactive
    simp [Sc.kind]
  have hlx : ([("self", Value.ref a), (x, u1)] : List (Str × Value)).reverse.lookup x = some u1 := by simp
  have hls : ([("self", Value.ref a), (x, u1)] : List (Str × Value)).reverse.lookup ("self" : Str) = some (Value.ref a) := by
    have e : (("self" : Str) == x) = false := by simpa using hx.symm
    simp [List.lookup_cons, e]
  refine ks_wpAt_execs_cons (ks_wpAt_Expr_any (ks_wpAt_MethodCall (pl := pl) (ks_wpAt_super_base (ar := ar) Sc.sup Sc.cls (by decide) rfl (KX0 _ _ lk) rfl hp rfl (KX0 _ _ hcode) rfl hvs hfile S.top ?_) (hev _)) hin (hsw _))
  refine PySem.W.ks_loadName_global Sc.kind Sc.sup (PySem.Calls.loadGlobal_builtin (e0.mod.glob.keeps hst) (PySem.W.mg_none_of e0.mod.kin e0.mod.glob S.sup) (hmb.keeps hst) ((hmb2 _ (by decide +kernel)).trans (show bootBuiltins "super" = some (.type "super") by decide +kernel)) ⟨rfl, ?_⟩)
  refine wpAny_loadName_free Sc.kind Sc.cls rfl ⟨_, KX0 _ _ hcell, rfl⟩ ?_
  rw [har]
  refine wpAny_loadName_local Sc.kind Sc.self hns hls ?_
  refine ks_wpAny_isType_cls (KX0 _ _ hC) rfl ⟨rfl, ?_⟩
  refine ks_wpAny_call_super (KX0 _ _ hC) rfl ho rfl (fun c e => by cases e) (PySem.W.looks_mroIn KX0 S.sub) (fun h1 e1 kk1 => ?_)
  have KX1 : K.In h1 := KX0.keeps kk1
  have J1 : PySem.W.InstAt h1 a _ C none := ⟨kk1 _ _ ho, rfl, rfl, trivial⟩
  refine PySem.W.kxs_getMethod PySem.W.kxs_ValueError e1 (PySem.W.looks_opaque KX1 S.opq) (l₀ := .ref C :: bm) (fun A Q E s k q => wpAny_bind ((PySem.W.looks_clsIn KX1 hcl) A _ E s k (wpAny_pure q))) rfl KX1 hal (J1.type.andThen (PySem.W.looks_subIn KX1 S.val)) (PySem.W.ks_ne KX1 J1 hcl) (by decide) ?_
  have kk2 : ∀ b o, h0.get? b = some o → (h1.push (PySem.W.kxs_mw "ValueError.__init__" a)).get? b = some o := fun b o e => Heap.get?_push_of_some _ (kk1 b o e)
  refine PySem.W.kxs_callWith (i := "ValueError.__init__") (x := a) rfl (PySem.Calls.evalArgs_plain ?_)
  refine args_cons (e := .Name x p3) (env := PySem.W.ksEnv qual scope hh.objs.size f (.ref cda) cc) (rest := []) ?_
  refine ESX.ldL (env := PySem.W.ksEnv qual scope hh.objs.size f (.ref cda) cc) (hns.keeps kk2) hlx ?_ Sc.kind Sc.arg hdb
  refine args_nil ⟨Heap.get?_push_size _ rfl, ?_⟩
  refine callMw S.oex (KX0.keeps kk2) (Heap.get?_push_size _ rfl) (kk2 _ _ ho) (by show 1 ≤ sizeLine; decide) fun h3 t1 k3 hx3 => ?_
  have I3' := I.write (t' := tk + 2 + 1) (x := a) (e := a) (o := exo a C none) (h' := h3) (by rw [ha]; trivial) (.inl rfl) (fun b o hb e => k3 b o hb (kk2 b o e)) ⟨_, hx3⟩ (exo_ok hx3)
  have eH : upd H a (exo a C none) = H := by
    funext b
    unfold upd
    split
    · rename_i z
      rw [z, ha]
    · rfl
  rw [eH] at I3'
  refine ks_wpAt_execs_cons (wpAt_of_wpAny ?_)
  have hp2 := (ps_ost (pe_var (X := cxS CX P w K mg base x qual scope f cda cc A outer ⟨hh, g, d, tk, os⟩ H E) (i := 0) rfl (.inl Sc.self) (by decide) (by decide)) (pe_var (i := 1) rfl (.inl Sc.arg) hdb hdc) (hsw2 _)).run [] _ _ H { nx := fun _ H' => Q .non H', rt := fun _ _ => False, bk := fun _ _ => False, ct := fun _ _ => False } I3' ⟨y, rfl, .ref a, rfl, a, C, rfl, S.oex, S.noa, .inl ⟨ha, fun dx h1 h2 => hq dx h1 h2⟩⟩
  refine wpAny_mono hp2 (fun fl s4 h4 => ?_) fun e s4 h4 => h4
  cases fl with
  | next =>
    obtain ⟨σ4, H4, J4, q4⟩ := h4
    exact wpAt_of_wpAny (wpAny_execs_nil ⟨.non, H4, J4.os, J4.bare, J4.base, J4.hok, rfl, q4⟩)
  | brk =>
    obtain ⟨_, _, _, z⟩ := h4
    exact z.elim
  | cont =>
    obtain ⟨_, _, _, z⟩ := h4
    exact z.elim
  | ret u =>
    obtain ⟨_, _, _, _, _, z⟩ := h4
    exact z.elim
end
end Dt
set_option Elab.async false
set_option linter.all false
set_option maxRecDepth 100000
set_option maxHeartbeats 4000000
namespace Dt
open PySem PySem.Spec PyProof.Rows L2
theorem FinX.up {K : PySem.W.Frag} {P P' : Hp} {Ξ : XP} {c : Value} {d : Option Addr} {H : Hp} (e : Ex P P') (h : FinX K P' Ξ c d H) : FinX K P Ξ c d H := by
  obtain ⟨C, dd, fs, ds, M', P2, a, b, c, d, f, g, i⟩ := h
  exact ⟨C, dd, fs, ds, M', P2, a, b, c, d, f, e.trans g, i⟩
/-- .. as a wish of a frame with its slots: their number alone is told -/
def WXP (X : Cx) (P : Hp) (Ξ : XP) : WX := fun cls d σ H => σ.length = X.N.length ∧ FinX X.K P Ξ cls d H
def WSx (X : Cx) (Γ : Sl) (M : Mem) (sts : List Stmt) (Ψ : Po) (Ξ : XP) : Prop := ∀ P σ H, SOk X.K Γ P σ → MOk X.K M P H → Takes X (WXP X P Ξ) → wpSs X sts (Ψ.ends X.K P) σ H
abbrev DSx := List D → Mem → VP → XP → Prop
/-- an own error's class: x its one attribute -/
def HasEx (P : Program) (w : World) (K : PySem.W.Frag) (mg : Str → Option Value) (base : Heap) (k : Nat) (C : Addr) (n x : Str) : Prop :=
  ∃ fI fd ps, OexC K C ∧ PySem.W.findIn K (.ref C) "__init__" = some (some (.ref fI)) ∧ PySem.W.typeIn K (.ref fI) = some (.type "function") ∧ FnOk P w K mg base CX0 k fI fd ps (spSup C x) ∧ Binds K fd ps [] ∧ mg n = some (.ref C)
section
variable {X : Cx} {Γ : Sl} {M : Mem} {Φ : VP} {Ψ : Po} {Ξ : XP} {e a b c o : Expr} {es : List Expr} {pos p pos' apos : Pos} {k : Nat} {x f : Str} {S : DSx} {st : Stmt} {sts : List Stmt}
theorem WSx.weak {Γ' : Sl} {M' : Mem} (h : WSx X Γ' M' sts Ψ Ξ) (hl : Γ'.length = Γ.length) (hi : ∀ (i : Nat) (d : D), Γ'[i]? = some (some d) → Γ[i]? = some (some d)) (hm : M'.Sublist M) : WSx X Γ M sts Ψ Ξ := fun P σ H s m tk => h P σ H (s.weak hl hi) (m.sub hm) tk
theorem del_upd {H : Hp} {a dx : Addr} {o1 o2 o3 o4 : HO} (ha : H a = none) (hne : dx ≠ a) : upd (del (upd (upd (upd H a o1) dx o2) a o3) a) dx o4 = upd H dx o4 := by
  funext b
  by_cases h1 : b = dx
  · subst h1
    rw [upd_same, upd_same]
  · rw [upd_ne h1, upd_ne h1]
    by_cases h2 : b = a
    · subst h2
      rw [del_same, ha]
    · rw [del_ne h2, upd_ne h2, upd_ne h1, upd_ne h2]
end
/-- what the class of a caught error must say -/
structure XcC (K : PySem.W.Frag) (C : Addr) (f : Str) : Prop where
  xf : XfC K C
  no : PySem.W.findIn K (.ref C) f = some none
  own : PySem.W.findIn K (.ref C) "__class__" = some (some (.builtin "object.__class__"))
  get : PySem.W.specialIn K (.builtin "object.__class__") "__get__" = some (some (.builtin "getset_descriptor.__get__"))
  tak : PySem.W.takesIn K (.builtin "object.__class__") = some true
  mro : PySem.W.mroIn K C (.type "object") = some true
end Dt
set_option Elab.async false
set_option linter.all false
set_option maxRecDepth 100000
set_option maxHeartbeats 4000000
set_option Elab.async false
set_option linter.all false
set_option maxRecDepth 100000
set_option maxHeartbeats 4000000
set_option Elab.async false
set_option linter.all false
set_option maxRecDepth 100000
set_option maxHeartbeats 4000000
namespace Dt
open PySem PySem.Spec PyProof.Rows L2
section
variable {X : Cx} {M : Mem} {Φ : VP}
theorem kitAny2 {K : PySem.W.Frag} {t c d : Value} {ka kb : Bool} (h1 : PySem.W.kitOne K t c = some ka) (h2 : PySem.W.kitOne K t d = some kb) : PySem.W.kitAny K t [c, d] = some (ka || kb) := by
  refine kitAny_cons h1 (fun e => ?_) fun e => by rw [e]; rfl
  subst e
  refine kitAny_cons h2 (fun e => ?_) fun e => by rw [e]; rfl
  subst e
  rfl
end
end Dt
set_option Elab.async false
set_option linter.all false
set_option maxRecDepth 100000
set_option maxHeartbeats 4000000
namespace Dt
open PySem PySem.Spec PyProof.Rows L2
theorem take_1 {α : Type} {L : List α} {i : Nat} {z : α} (h : L[i]? = some z) : L.take (i + 1) = L.take i ++ [z] := by
  obtain ⟨hi, e⟩ := List.getElem?_eq_some_iff.mp h
  rw [List.take_succ_eq_append_getElem hi, e]
end Dt
set_option Elab.async false
set_option linter.all false
set_option maxRecDepth 100000
set_option maxHeartbeats 4000000
set_option Elab.async false
set_option linter.all false
set_option maxRecDepth 100000
set_option maxHeartbeats 4000000
namespace Dt
open PySem PySem.Spec PyProof.Rows L2
theorem obQ_eq {n : Nat} {fa : List He.Fa} {fn fx : List Df} {ex : Fg → Bool} (s : PySem.W.SharedT) : obQ n fa fn fx ex s = (hookQ n fa fn fx ex).obs s.abs := by
  have e : HandSHeadRun.getT s = s.abs.heap.get? := funext (HandSHeadRun.getT_eq s)
  unfold obQ
  rw [e]
  rfl
theorem oexB_ok {K : Fg} {C : Addr} (h : oexB K C = true) : OexC K C := by
  unfold oexB at h
  obtain ⟨h1, h⟩ := Bool.and_eq_true_iff.mp h
  obtain ⟨h2, h⟩ := Bool.and_eq_true_iff.mp h
  obtain ⟨h3, h⟩ := Bool.and_eq_true_iff.mp h
  obtain ⟨h4, h5⟩ := Bool.and_eq_true_iff.mp h
  refine ⟨?_, He.eqO_ok h2, of_decide_eq_true h3, of_decide_eq_true h4, h5⟩
  split at h1
  · rename_i c dd cd sl hl
    split at h1
    · rename_i C' bm k0 k1 k2 k3 n k5 hm hs
      obtain ⟨e1, h1⟩ := Bool.and_eq_true_iff.mp h1
      obtain ⟨e2, h1⟩ := Bool.and_eq_true_iff.mp h1
      obtain ⟨e3, h1⟩ := Bool.and_eq_true_iff.mp h1
      obtain ⟨e4, h1⟩ := Bool.and_eq_true_iff.mp h1
      obtain ⟨e5, e6⟩ := Bool.and_eq_true_iff.mp h1
      have e1 := of_decide_eq_true e1
      have e2 := of_decide_eq_true e2
      have e3 := of_decide_eq_true e3
      have e7 : cd.hasDel = false := by simpa using e5
      obtain ⟨c1, c2, c3, c4, c5, c6, c7, c8, c9, c10, c11⟩ := cd
      dsimp only at hm e4 e7
      subst hm e1 e2 e3 e4 e7
      have es : sl = #[k0, k1, k2, k3, some (.builtin "ValueError.__new__"), k5] := by
        have z := congrArg List.toArray hs
        rw [Array.toArray_toList] at z
        exact z
      subst es
      exact ⟨c1, c5, c4, c2, bm, c7, c8, c9, c10, dd, k0, k1, k2, k3, k5, hl, e6⟩
    · cases h1
  · cases h1
theorem hasEx {P : Program} {w : World} {K : Fg} {h base : Heap} {mg : Str → Option Value} {k : Nat} {n x : Str} {d : Df} {p0 p1 p2 p3 p4 p5 p6 p7 p8 p9 : Pos} {pl : Sem Bool} {ar : Arg} (X : K.In h) (G : h.Ns mainGlobals mg) (hl : d.loc K = He.ma K (He.ga K n) "__init__") (h1 : seeX K (d.loc K) = d.toldX) (h2 : supB P.main.file K (He.ga K n) x d.qu = true)
    (g2 : (He.Fa.glo n).ok K = true) (ht : (P.main.scope.names.lookup ("super" : Str)).isSome = false)
    (hbo : d.bo = [.Expr (.Call (.Attribute (.Call (.Name "super" p0) [] [] p1) "__init__" p2) [.Name x p3] [] p4) p5, .Assign [.Attribute (.Name "self" p6) x p7] (.Name x p8) p9]) (Sc : SupS d.sc x) (hx : x ≠ "self") (hx2 : x ≠ "__class__") (hdb : (x == ("__debug__" : Str)) = false) (hdc : (x == ("__classdict__" : Str)) = false)
    (hp : (d.pa.posonlyargs ++ d.pa.args).head? = some ar) (har : ar.arg = "self")
    (hev : ∀ env : Env, eval (.Call (.Attribute (.Call (.Name "super" p0) [] [] p1) "__init__" p2) [.Name x p3] [] p4) env = (do
      let ov ← attributeBase (.Call (.Name "super" p0) [] [] p1) "__init__" env (eval (.Call (.Name "super" p0) [] [] p1) env)
      standAt p2.atName
      let (f, first) ← holding [ov] (getMethod ov "__init__" pl)
      callWith p4 f first (backTo p4 (starEach [.Name x p3] env)) []))
    (hsw : ∀ env : Env, swapsWith (.Call (.Attribute (.Call (.Name "super" p0) [] [] p1) "__init__" p2) [.Name x p3] [] p4) none p5.line env = pure false) (hsw2 : ∀ env : Env, swapsWith (.Name x p8) (some (.Attribute (.Name "self" p6) x p7)) p9.line env = pure false)
    (hbind : ∀ (kV doc pm : Value) (an : Option Addr) (cdv ct : Value) (cc : Addr) (us : List Value), us.length = 2 → bindArgs (PySem.W.ksFn d.nm d.qu d.pa d.bo d.sc .none kV doc pm an cdv ct cc) ⟨us, []⟩ = pure ((["self", x] : List Str).zip us)) :
    HasEx P w K mg base (k + 1) (He.ga K n) n x := by
  unfold supB at h2
  replace h2 := Bool.and_eq_true_iff.mp h2
  obtain ⟨a1, h2⟩ := h2
  replace h2 := Bool.and_eq_true_iff.mp h2
  obtain ⟨a2, h2⟩ := h2
  replace h2 := Bool.and_eq_true_iff.mp h2
  obtain ⟨a3, h2⟩ := h2
  replace h2 := Bool.and_eq_true_iff.mp h2
  obtain ⟨a4, h2⟩ := h2
  replace h2 := Bool.and_eq_true_iff.mp h2
  obtain ⟨a5, h2⟩ := h2
  replace h2 := Bool.and_eq_true_iff.mp h2
  obtain ⟨a6, h2⟩ := h2
  replace h2 := Bool.and_eq_true_iff.mp h2
  obtain ⟨a7, h2⟩ := h2
  replace h2 := Bool.and_eq_true_iff.mp h2
  obtain ⟨a8, h2⟩ := h2
  replace h2 := Bool.and_eq_true_iff.mp h2
  obtain ⟨a9, h2⟩ := h2
  rw [hl] at h1
  unfold seeX at h1
  split at h2
  · rename_i oc od g osl hk
    rw [hk, Option.bind_some] at h1
    dsimp only at h1
    split at h2
    · rename_i y cc cda hc hcd
      obtain ⟨b1, h2⟩ := Bool.and_eq_true_iff.mp h2
      obtain ⟨b0, h2⟩ := Bool.and_eq_true_iff.mp h2
      obtain ⟨b2, b3⟩ := Bool.and_eq_true_iff.mp h2
      have b9 := of_decide_eq_true b0
      obtain ⟨g1, g2', g3, g4, g5, g6, g7, g8, g9, g10, g11, g12, g13, g14, g15⟩ := g
      dsimp only at hc hcd b9 h1
      subst hc hcd b9
      simp only [Df.toldX, Option.some.injEq, Prod.mk.injEq, List.map_cons, List.map_nil, List.cons.injEq, and_true] at h1
      obtain ⟨r1, r2, r3, r4, r5, r6, r7, r8⟩ := h1
      subst r1 r2 r3 r4 r5 r6 r7 r8
      have cellOk : ∃ cl cld csl, K.lookup cc = some ⟨cl, cld, .cell (some (.ref (He.ga K n))), csl⟩ := by
        split at b2
        · rename_i e1 e2 C' e4 e5
          have z := of_decide_eq_true b2
          subst z
          exact ⟨_, _, _, e5⟩
        · cases b2
      have codeOk : ∃ ccl cdd vs ccs file tf, K.lookup cda = some ⟨ccl, cdd, .fields vs, ccs⟩ ∧ vs[2]? = some (.str file tf) ∧ ((P.main.file : Str) == file) = true := by
        split at b3
        · rename_i e1 e2 vs e4 e5
          split at b3
          · rename_i file tf e6
            exact ⟨_, _, vs, _, file, tf, e5, e6, b3⟩
          · cases b3
        · cases b3
      have S : SupC P K (He.ga K n) cc cda x := ⟨oexB_ok a1, He.eqO_ok a2, of_decide_eq_true a3, of_decide_eq_true a4, He.eqO_ok a5, He.eqO_ok a6, He.eqO_ok a7, cellOk, codeOk, ht⟩
      refine ⟨He.ma K (He.ga K n) "__init__", PySem.W.ksFn d.nm d.qu d.pa d.bo d.sc .none g9 g10 g11 g12 (.ref cda) g14 cc, ["self", x], oexB_ok a1, He.eqO_ok a8, of_decide_eq_true a9, ?_, .all fun us hl => hbind g9 g10 g11 g12 (.ref cda) g14 cc us hl, He.glo_ok X G g2⟩
      rw [hbo] at hk ⊢
      exact fn_sup (k := k) hk b1 S Sc hx hx2 hdb hdc hp har hev hsw hsw2
    · cases h2
  · cases h2
theorem xcB_ok {K : Fg} {C : Addr} {f : Str} (h : xcB K C f = true) : XcC K C f := by
  unfold xcB at h
  obtain ⟨a1, h⟩ := Bool.and_eq_true_iff.mp h
  obtain ⟨a2, h⟩ := Bool.and_eq_true_iff.mp h
  obtain ⟨a3, h⟩ := Bool.and_eq_true_iff.mp h
  obtain ⟨a4, h⟩ := Bool.and_eq_true_iff.mp h
  obtain ⟨a5, a6⟩ := Bool.and_eq_true_iff.mp h
  exact ⟨xfB_ok a1, He.eqO_ok a2, He.eqO_ok a3, He.eqO_ok a4, of_decide_eq_true a5, of_decide_eq_true a6⟩
end Dt
set_option Elab.async false
set_option linter.all false
set_option maxRecDepth 100000
set_option maxHeartbeats 4000000
set_option Elab.async false
set_option linter.all false
set_option maxRecDepth 100000
set_option maxHeartbeats 4000000
set_option Elab.async false
set_option linter.all false
set_option maxRecDepth 100000
set_option maxHeartbeats 4000000
set_option Elab.async false
set_option linter.all false
set_option maxRecDepth 100000
set_option maxHeartbeats 2000000
namespace Dt
open PySem PySem.Spec PyProof.Rows L2
section
variable {X : Cx} {Γ : Sl} {M : Mem} {Φ : VP} {Ψ : Po} {a b c e o tg elt iter : Expr} {ifs : List Expr} {scope : Scope} {own : List (Str × Nat)} {body : List Stmt} {pos p pos2 pos' : Pos} {Θ : Sl → Mem → Prop} {d : D}
def rCatL (K : PySem.W.Frag) : R2 := fun x y H Q => ∃ l b xs zs, x = .ref l ∧ y = .ref b ∧ SqL K H l xs ∧ SqL K H b zs ∧ xs.length + zs.length ≤ sizeLine ∧ ∀ p, H p = none → Q (.ref p) (upd H p (.lst (xs ++ zs)))
theorem op_catL : OpR X (binaryOp .Add) (rCatL X.K) := by
  intro pins s σ H x y v u Q I rx ry h
  obtain ⟨l, b, xs, zs, rfl, rfl, hH, hB, hz, q⟩ := h
  cases rx
  cases ry
  obtain ⟨its, r, ⟨⟨cls, dd, data, sl⟩, n, ho, hc, hdd, hd⟩, hl⟩ := I.list hH
  obtain ⟨its2, r2, ⟨⟨cls2, dd2, data2, sl2⟩, n2, ho2, hc2, hdd2, hd2⟩, hl2⟩ := I.list hB
  simp only at hc hd hc2 hd2
  subst hc hd hc2 hd2
  have e : its.toArray ++ its2.toArray = (its ++ its2).toArray := by simp
  have z1 := r.length
  have z2 := r2.length
  refine concat_meets ⟨_, ho, rfl⟩ ⟨_, ho2, rfl⟩ noFill_list_add seq_list_add PySem.F.slot_list_add PySem.F.entry_list_add (PySem.F.args_list_add_2 _ _) (list_addW l b its.toArray its2.toArray n n2 dd dd2 sl sl2 (by rw [List.size_toArray, List.size_toArray]; omega)) ⟨ho, ho2, ?_⟩
  rw [e]
  exact ⟨.ref _, _, I.lnew (t' := s.toks) (r.append r2) (by rw [List.length_append]; omega), rfl, q _ I.fresh⟩
theorem od_catL {x y : D} {ds es : List D} (hx : LstD M x ds) (hy : LstD M y es) (hl : ds.length + es.length ≤ sizeLine) (q : Φ (.lst (ds ++ es)) M) : OpD X (binaryOp .Add) x y M Φ := fun P H a b m ia ib => by
  obtain ⟨l, xs, rfl, h1, h2⟩ := hx.at_ m ia
  obtain ⟨l2, ys, rfl, h3, h4⟩ := hy.at_ m ib
  refine opT_of op_catL ⟨l, l2, xs, ys, rfl, rfl, h1, h3, by rw [h2.1, h4.1]; exact hl, fun p hp => ?_⟩
  obtain ⟨m2, e2⟩ := m.push (o := .lst (xs ++ ys)) hp
  have h5 := h2.append h4
  exact ⟨_, M, _, q, e2, m2, .lst (SqL.of upd_same) h5.1 fun i x d a b => (h5.2 i x d a b).mono e2⟩
end
end Dt
set_option Elab.async false
set_option linter.all false
set_option maxRecDepth 100000
set_option maxHeartbeats 2000000
namespace Dt
open PySem PySem.Spec PyProof.Rows L2
/-- what a target does to the slots -/
def TgOk (K : PySem.W.Frag) (vs : List Nat) (g : TG) (F : Sl → D → Sl) (fits : D → Prop) : Prop := ∀ (P : Hp) (σ : L2.St) (H : Hp) (Γ : Sl) (y : D) (v : V) (Q : L2.St → Hp → Prop), Ex P H → SOk K Γ P σ → IsD K P v y → fits y → (∀ σ2, SOk K (F Γ y) P σ2 → wipe σ2 vs = wipe σ vs → Q σ2 H) → g v σ H Q
theorem tg_name {K : PySem.W.Frag} {vs : List Nat} {j : Nat} (hj : j ∈ vs) : TgOk K vs (gName j) (fun Γ y => Γ.set j (some y)) (fun _ => True) := fun P σ H Γ y v Q e s i _ q => q _ (s.set i) (wipe_set hj)
section
variable {X : Cx} {Γ : Sl} {M : Mem} {Φ : VP} {Ψ : Po} {elt iter tgt : Expr} {ifs : List Expr} {scope : Scope} {own : List (Str × Nat)} {pos spos py : Pos} {sts : List Stmt} {y : Str} {g : TG} {F : Sl → D → Sl} {fits : D → Prop}
abbrev StepG (X : Cx) (scope : Scope) (own : List (Str × Nat)) (ifs : List Expr) (elt : Expr) (F : Sl → D → Sl) (fits : D → Prop) (Γ : Sl) (xs : List D) (J : Nat → List D → Mem → Prop) : Prop := ∀ (i : Nat) (y : D) (l : Addr) (out : List D) (M' : Mem), xs[i]? = some y → J i out M' → fits y ∧ Turn1 X scope ifs elt (J (i + 1)) (F (wipeD Γ (own.map (·.2))) y) l out M'
theorem lcL_core {R : Addr → List D → Mem → Prop} (tg : TgOk X.K (own.map (·.2)) g F fits) (h : WE X Γ M iter fun d M1 => ∃ (J : Nat → List D → Mem → Prop) (xs : List D), d = .lst xs ∧ J 0 [] M1 ∧ StepG X scope own ifs elt F fits Γ xs J ∧ ∀ l out M', J xs.length out M' → R l out M')
    {P H : Hp} {σ : L2.St} {Q : VK} (s : SOk X.K Γ P σ) (m : MOk X.K M P H) (q : ∀ l out M' P' H', R l out M' → Ex P P' → MOk X.K ((l, .lst out) :: M') P' H' → Q (.ref l) H') : tLc (iList X.K (wpT X iter)) g (tsB X scope ifs) (teB X scope elt) (own.map (·.2)) σ H Q := by
  refine (h P σ H s m).mono fun v H1 ⟨d, M1, P1, ⟨J, xs, hd, j0, hstep, hdone⟩, e1, m1, i1⟩ => ?_
  subst hd
  cases i1 with
  | @lst a vs _ hq hl hi =>
    refine ⟨a, rfl, ⟨vs, m1.ex.seq hq⟩, fun l hn => lc_list (xs := vs) (fun i => LcInv X.K P1 l (J i)) ⟨[], M1, P1, j0, Same.refl P1, m1.own hn ⟨[], upd_same, .nil⟩⟩ (fun i H' _ ⟨out, M', P', jj, e', m'⟩ => (m'.ex.seq (e'.seq hq))) ?_ ?_⟩
    · rintro i x0 H' hx ⟨out, M', P', jj, e', m'⟩
      obtain ⟨y, hy, iy⟩ := IsDs.getV (K := X.K) (P := P1) ⟨hl, hi⟩ hx
      obtain ⟨hf, ht⟩ := hstep i y l out M' hy jj
      refine tg P' _ H' _ y x0 _ m'.ex (sok_wipe (s.mono (e1.trans e')) (own.map (·.2))) (iy.mono e') hf fun σ2 s2 w2 => ⟨by rw [w2, wipe_wipe], lc_turn ht e' s2 m'⟩
    · rintro H' ⟨out, M', P', jj, e', m'⟩
      exact q l out M' P' H' (hdone l out M' (by rw [← hl]; exact jj)) (e1.trans e') m'
/-- [elt for tgt in lst if ..] -/
theorem we_genL (hN : X.N.Nodup) (tg : TgOk X.K (own.map (·.2)) g F fits) (h : WE X Γ M iter fun d M1 => ∃ (J : Nat → List D → Mem → Prop) (xs : List D), d = .lst xs ∧ J 0 [] M1 ∧ StepG X scope own ifs elt F fits Γ xs J ∧ ∀ l out M', J xs.length out M' → Φ (.adr l) ((l, .lst out) :: M'))
    (ok : BlkOk X.N X.env.scope scope own) (hg : ∀ (s : Shared) (H : Hp) (C : Addr) (cl : List (Str × Addr)) (fp : List Addr), PG (X.blk s H scope (compEnvC scope cl C X.env) fp) tgt g) (hc : X.calm = true := by rfl) (hs : ∀ x, foldedSetIterable iter X.env x = pure x := by intro _; rfl) : WE X Γ M (.ListComp elt [⟨tgt, iter, ifs, 0⟩] scope pos) Φ := fun P σ H s m =>
  wpT_of (pe_lc (tt := tsB X scope ifs) (te := teB X scope elt) hc hN (pi_list pe_wp) ok hg (fun s0 H0 C cl fp => ⟨fun pins sh σ' H' Q I q => q s0 H0 C cl fp pins sh I⟩) (fun s0 H0 C cl fp => ⟨fun pins sh σ' H' Q I q => q s0 H0 C cl fp pins sh I⟩) hs)
    (lcL_core (R := fun l out M' => Φ (.adr l) ((l, .lst out) :: M')) tg h s m fun l out M' P' H' r e m' => ⟨_, _, P', r, e, m', .adr⟩)
/-- what a comprehension's parts come to, item by item, with memory as it is -/
structure CompG (X : Cx) (Γ : Sl) (scope : Scope) (own : List (Str × Nat)) (F : Sl → D → Sl) (fits : D → Prop) (ifs : List Expr) (elt : Expr) {α : Type} (as : List α) (f : α → D) (p : α → Bool) (gd : α → D) (M1 : Mem) : Prop where
  len : as.length < sizeLine
  fit : ∀ a, a ∈ as → fits (f a)
  test : ∀ a, a ∈ as → ∀ l out s H C cl fp, WTs (blkOf X scope s H C cl fp) (F (wipeD Γ (own.map (·.2))) (f a)) ((l, .lst out) :: M1) ifs fun k M2 => k = p a ∧ M2 = (l, .lst out) :: M1
  item : ∀ a, a ∈ as → p a = true → ∀ l out s H C cl fp, WE (blkOf X scope s H C cl fp) (F (wipeD Γ (own.map (·.2))) (f a)) ((l, .lst out) :: M1) elt fun z M2 => z = gd a ∧ M2 = (l, .lst out) :: M1
theorem comp_step {α : Type} {as : List α} {f : α → D} {p : α → Bool} {gd : α → D} {M1 : Mem} (h : CompG X Γ scope own F fits ifs elt as f p gd M1) : StepG X scope own ifs elt F fits Γ (as.map f) (fun i out M' => out = ((as.take i).filter p).map gd ∧ M' = M1) := by
  rintro i y l out M' hy ⟨rfl, rfl⟩
  obtain ⟨a, ha, rfl⟩ := getMap hy
  have hm := List.mem_of_getElem? ha
  have hi := (List.getElem?_eq_some_iff.mp ha).1
  refine ⟨h.fit a hm, fun s H C cl fp P σ H2 so mo => ?_⟩
  refine (show WTs _ _ _ ifs _ from ?_) P σ H2 so mo
  have h1 := h.test a hm l (((as.take i).filter p).map gd) s H C cl fp
  refine fun P σ H2 so mo pins sh I => thn (h1 P σ H2 so mo pins sh I) fun b s' ⟨H', I', M2, P2, ⟨hk, hM⟩, e2, m2⟩ => ⟨H', I', M2, P2, ⟨fun hb s H C cl fp => ?_, fun hb => ?_⟩, e2, m2⟩
  · subst hM
    rw [hk] at hb
    refine (h.item a hm hb l _ s H C cl fp).mono fun z M3 ⟨hz, hM3⟩ => ⟨M', hM3, ?_, ?_, rfl⟩
    · have := List.length_filter_le p (as.take i)
      have hl := h.len
      rw [List.length_map]
      rw [List.length_take] at this
      omega
    · rw [take_1 ha, List.filter_append, List.filter_cons, hb, List.map_append, hz]
      rfl
  · subst hM
    rw [hk] at hb
    refine ⟨M', rfl, ?_, rfl⟩
    rw [take_1 ha, List.filter_append, List.filter_cons, hb]
    simp
theorem we_mapL (hN : X.N.Nodup) (tg : TgOk X.K (own.map (·.2)) g F fits) (h : WE X Γ M iter fun d M1 => ∃ (α : Type) (as : List α) (f : α → D) (p : α → Bool) (gd : α → D), d = .lst (as.map f) ∧ CompG X Γ scope own F fits ifs elt as f p gd M1 ∧ ∀ l, Φ (.adr l) ((l, .lst ((as.filter p).map gd)) :: M1))
    (ok : BlkOk X.N X.env.scope scope own) (hg : ∀ (s : Shared) (H : Hp) (C : Addr) (cl : List (Str × Addr)) (fp : List Addr), PG (X.blk s H scope (compEnvC scope cl C X.env) fp) tgt g) (hc : X.calm = true := by rfl) (hs : ∀ x, foldedSetIterable iter X.env x = pure x := by intro _; rfl) : WE X Γ M (.ListComp elt [⟨tgt, iter, ifs, 0⟩] scope pos) Φ :=
  we_genL hN tg (h.mono fun d M1 ⟨α, as, f, p, gd, hd, hp, q⟩ => ⟨_, as.map f, hd, ⟨rfl, rfl⟩, comp_step hp, fun l out M' ⟨ho, hM⟩ => by
    subst ho hM
    rw [List.length_map, List.take_length]
    exact q l⟩) ok hg hc hs
end
end Dt
set_option Elab.async false
set_option linter.all false
set_option maxRecDepth 100000
set_option maxHeartbeats 2000000
namespace Dt
open PySem PySem.Spec PyProof.Rows L2
section
variable {P : Program} {w : World} {K : PySem.W.Frag} {mg : Str → Option Value} {base : Heap} {x qual : Str} {params : Arguments} {body : List Stmt} {scope : Scope} {dvs : List V} {kws : List (Str × V)} {f : Addr} {fd : FuncData}
/-- a def's promise where nothing is being shown -/
def RunG (P : Program) (w : World) (K : PySem.W.Frag) (mg : Str → Option Value) (base : Heap) (k : Nat) (f : Addr) (fd : FuncData) (ps : List Str) (sp : Sp) : Prop :=
  ∀ (B : Around) (up : List Env) (z : Shared) (G : Hp) (ar : Args) (us : List Value) (vs : List V) (Q : VK) (E : XK), B.guards = some [] → Room k B → Env0 P w K mg base B up z G → BindsTo z fd ar (ps.zip us) → Vals vs us → sp vs G Q E → codeAny (model P w) B (.call (.ref f) ar) (CR CX0 up P w G z Q E) z
theorem fn_dataG {N ps : List Str} {k : Nat} {S : DS} (F : FunD K x qual params body scope dvs kws f fd) (Sc : FnScope N ps scope) (len : ∀ ds M Φ, S ds M Φ → ds.length = ps.length)
    (hbody : ∀ (cdv : Value) (A : Around) (outer : List Env) (s : Shared) (H : Hp) (E : XK) (ds : List D) (M : Mem) (Φ : VP), A.guards = some [] → Room k (A.deeper (envOfC qual scope s.heap.objs.size f cdv)) → S ds M Φ →
      WS (cxOf CX0 P w K mg base N qual scope f cdv A outer s H E).nox (startD N.length ds) M body { nx := fun _ M' => Φ .non M', rt := Φ }) : RunG P w K mg base (k + 1) f fd ps (spOf K S) := by
  intro B up z G ar us vs Q E hgd room env bind rel hsp
  obtain ⟨P1, M, ds, Φ, i, m, hs, hq⟩ := hsp
  have len1 : vs.length = ps.length := by rw [i.1]; exact len _ _ _ hs
  obtain ⟨oc, od, dV, kV, doc, pm, an, cdv, ct, osl, rfl, lk, code, _, _⟩ := F.ex
  have kept : ∀ b o, base.get? b = some o → z.heap.get? b = some o := fun b o e => (env.bs b o e).1
  have kin : K.In z.heap := env.mod.kin.keeps kept
  have names : ∀ y ∈ ps.zip us, scope.names.lookup y.1 = some .local ∨ (scope.names.lookup y.1 = some .cell ∧ ((cellsFrom (z.heap.objs.size + 1) scope.names []).lookup y.1).isSome = true) := fun y hy =>
    (Sc.par y.1 (List.of_mem_zip (show (y.1, y.2) ∈ ps.zip us from hy)).1).imp id fun q => ⟨q, PySem.W.cellsFrom_some _ _ _ (.inl q)⟩
  refine codeAny_call_function room.depth (kin _ _ lk) rfl Sc.co Sc.gen rfl (PySem.W.codeRec_of kin code) (bind _ _ _ _ (wpAny_newFunctionEnv_cells Sc.kind names fun e1 he z1 q1 => ?_))
  subst he
  refine ⟨(env.mod.nolimit.keeps kept).keeps q1.toInCall.keep, codeAny_func ?_⟩
  have inv := inv_start (CX := CX0) (E := E) Sc room.hd env len1 rel q1
  have walk := (hbody cdv B up z G E ds M Φ hgd (room.deeper _) hs P1 (L2.start N vs) G (sok_start i) m).mono (D' := { nx := fun _ H' => Q .non H', rt := Q }) ⟨fun σ' H' ⟨Γ', M', P', q, e, _, m'⟩ => hq _ _ ⟨.non, M', P', q, e, m', .non⟩, fun v H' z => hq v H' z, fun _ _ ⟨_, _, _, z, _⟩ => z.elim, fun _ _ ⟨_, _, _, z, _⟩ => z.elim⟩
  refine wpAny_mono ((PSs.nox (X := cxOf CX0 P w K mg base N qual scope f cdv B up z G E) pss_wp).run [] z1 _ G _ inv walk) (fun fl z2 h2 => ?_) fun e z2 h2 => h2
  cases fl with
  | ret u =>
    obtain ⟨v, σ2, H2, J, rv, q⟩ := h2
    exact ⟨v, H2, J.os, J.bare, J.base, J.hok, rv, q⟩
  | next =>
    obtain ⟨σ2, H2, J, q⟩ := h2
    exact ⟨.non, H2, J.os, J.bare, J.base, J.hok, rfl, q⟩
  | brk => exact h2.elim fun _ h => h.elim fun _ h => h.2.elim
  | cont => exact h2.elim fun _ h => h.elim fun _ h => h.2.elim
end
section
variable {P : Program} {w : World} {K : PySem.W.Frag} {mg mb : Str → Option Value} {k : Nat} {fa a : Addr} {fd : FuncData} {x : Str} {sp : Sp} {z : Shared} {vs : List Value} {ns : List Int}
/-- the end of the law's call, from any heap of tracked objects that holds the script alone -/
theorem endG {G : Hp} (KX : K.In z.heap) (hns : z.heap.Ns mainGlobals mg) (hb : z.heap.Ns builtinsNs mb) (hbb : ∀ x : Str, x ≠ "__name__" → mb x = bootBuiltins x) (hlim : z.heap.NoLimit) (hg : z.gens = #[])
    (ha : z.heap.get? a = some { cls := .type "list", data := .seq vs.toArray }) (hr : Room k callerA)
    (F : ∀ base : Heap, K.In base → base.Ns mainGlobals mg → RunG P w K mg base k fa fd [x] sp) (hbind : ∀ (s : Shared) (u : Value), BindsTo s fd ⟨[u], []⟩ [(x, u)])
    (hO : Only G) (hok : HOk P w G z.heap) (hA : ∀ b, G b ≠ none → b = a) (hK : G a ≠ none → K.lookup a = none) (hsp : sp [.ref a] G (fun v _ => v = .bl true) fun _ _ _ => False) :
    codeAny (model P w) callerA (.call (.ref fa) ⟨[.ref a], []⟩) (fun r s' => r = .ok (.ret (.bool true)) ∧ OldK z.heap s'.heap ∧ s'.os = z.os ∧ AllBare s'.gens) z := by
  have free : ∀ b, b ≠ a → G b = none := fun b hne => Classical.byContradiction fun q => hne (hA b q)
  have there : ∀ {b : Addr} {o : Obj}, z.heap.get? b = some o → G b = none → (hidT z.heap G).get? b = some o := fun e n => hidT_get e n
  have nsB : ∀ {b : Addr} {m : Str → Option Value}, z.heap.Ns b m → (hidT z.heap G).Ns b m := fun {b m} ⟨o, es, ep, e, d, r⟩ => ⟨o, es, ep, there e (free b fun q => by
    subst q
    rw [ha] at e
    cases e
    exact absurd (show Data.seq vs.toArray _ = Data.dict es ep from d) (by intro q; cases q)), d, r⟩
  have kinB : K.In (hidT z.heap G) := fun b o e => there (KX b o e) (Classical.byContradiction fun q => by
    obtain rfl := hA b q
    rw [hK q] at e
    cases e)
  obtain ⟨mc, c1, c2⟩ := hlim
  have env : Env0 P w K mg (hidT z.heap G) callerA [] z G := ⟨rfl, ⟨kinB, nsB hns, ⟨mb, nsB hb, hbb⟩, ⟨mc, nsB c1, c2⟩⟩, fun b o e => of_hidT e, Nat.le_of_eq (hidT_size _ _), trivial, (fun b q => by cases q), hok, .of_eq hg⟩
  refine codeAny_mono (F _ kinB (nsB hns) callerA [] z G ⟨[.ref a], []⟩ [.ref a] [.ref a] _ _ rfl hr env (hbind z (.ref a)) (.cons rfl .nil) hsp) fun r s' h => ?_
  match r, h with
  | .error e, h => exact (show False from h).elim
  | .ok .next, h => exact (show False from h).elim
  | .ok .brk, h => exact (show False from h).elim
  | .ok .cont, h => exact (show False from h).elim
  | .ok (.ret u), h =>
    obtain ⟨v, G2, os, bare, un, hok2, rel, q⟩ := h
    have q : v = .bl true := q
    subst q
    obtain rfl : u = Value.bool true := rel
    refine ⟨rfl, OldK.of_keep fun b o e => ?_, os, bare⟩
    rcases hO b with q | ⟨ob, xs, q⟩
    · exact un.keep b o e q (fun z => by cases z) (by simp)
    · have e1 := (hok b _ q).1
      have e2 := (hok2 b _ (un.frzs b ob _ q)).1
      exact (Option.some.inj (e.symm.trans e1)) ▸ e2
theorem law_callG (KX : K.In z.heap) (hns : z.heap.Ns mainGlobals mg) (hb : z.heap.Ns builtinsNs mb) (hbb : ∀ x : Str, x ≠ "__name__" → mb x = bootBuiltins x) (hlim : z.heap.NoLimit) (hg : z.gens = #[])
    (ha : z.heap.get? a = some { cls := .type "list", data := .seq vs.toArray }) (hi : IntsAre vs ns) (hl : ns.length ≤ sizeLine) (hr : Room k callerA)
    (F : ∀ base : Heap, K.In base → base.Ns mainGlobals mg → RunG P w K mg base k fa fd [x] sp) (hbind : ∀ (s : Shared) (u : Value), BindsTo s fd ⟨[u], []⟩ [(x, u)])
    (hsp : ∀ H : Hp, Only H → SqL K H a (ns.map V.int) → sp [.ref a] H (fun v _ => v = .bl true) fun _ _ _ => False) :
    codeAny (model P w) callerA (.call (.ref fa) ⟨[.ref a], []⟩) (fun r s' => r = .ok (.ret (.bool true)) ∧ OldK z.heap s'.heap ∧ s'.os = z.os ∧ AllBare s'.gens) z := by
  have rv : Vals (ns.map V.int) vs := vals_ints hi
  have n1 : vs.length ≤ sizeLine := by rw [hi.length]; exact hl
  rcases hk : K.lookup a with _ | o
  · have s1 : (fun b => if b = a then some (HO.frz { cls := .type "list", data := .seq vs.toArray } (.lst (ns.map V.int))) else none) a = some (.frz { cls := .type "list", data := .seq vs.toArray } (.lst (ns.map V.int))) := if_pos rfl
    refine endG (G := fun b => if b = a then some (HO.frz { cls := .type "list", data := .seq vs.toArray } (.lst (ns.map V.int))) else none) KX hns hb hbb hlim hg ha hr F hbind (fun b => ?_) (fun b u q => ?_) (fun b q => Classical.byContradiction fun n => q (if_neg n)) (fun _ => hk) (hsp _ (fun b => ?_) (.inl (.inr ⟨_, s1⟩)))
    · by_cases n : b = a
      · exact .inr ⟨_, _, if_pos n⟩
      · exact .inl (if_neg n)
    · by_cases n : b = a
      · subst n
        cases s1.symm.trans q
        exact ⟨ha, by rw [List.length_map]; exact hl, vs, _, rv, ha⟩
      · cases (if_neg n).symm.trans q
    · by_cases n : b = a
      · exact .inr ⟨_, _, if_pos n⟩
      · exact .inl (if_neg n)
  · have e := (KX a o hk).symm.trans ha
    cases e
    refine endG (G := fun _ => none) KX hns hb hbb hlim hg ha hr F hbind (fun _ => .inl rfl) (fun b u q => by cases q) (fun b q => (q rfl).elim) (fun q => (q rfl).elim) (hsp _ (fun _ => .inl rfl) (.inr ⟨_, vs.toArray, _, hk, rfl, rfl, rfl, by rw [List.size_toArray]; exact n1, by simpa using rv⟩))
end
theorem walk_ofG {l : PySem.W.OpenLaw} {n k : Nat} {q : Program} {loose : List Str} {XP : (Str → Option Value) → Heap → Prop} {YP : World → Heap → Prop} {d : DefRec} {x : Str}
    (hn : l.most = some n) (hn2 : n ≤ sizeLine) (hdf : d.params.defaults = []) (hr : Room k callerA)
    (F : ∀ (w : World) (mg : Str → Option Value) (fa : Addr) (h : Heap), YP w h → h.Ns mainGlobals mg → mg d.name = some (.ref fa) →
      ∃ (K : PySem.W.Frag) (fd : FuncData) (sp : Sp), K.In h ∧ (∀ (s : Shared) (u : Value), BindsTo s fd ⟨[u], []⟩ [(x, u)]) ∧
        (∀ (H : Hp) (a : Addr) (ns : List Int), ns.length ≤ n → Only H → SqL K H a (ns.map V.int) → sp [.ref a] H (fun v _ => v = .bl true) fun _ _ _ => False) ∧
        ∀ base : Heap, K.In base → base.Ns mainGlobals mg → RunG l.prog w K mg base k fa fd [x] sp) :
    PySem.W.WalkO q loose XP YP l.row.toRowW d [] (fun f vs => PySem.call f vs) :=
  Att.attach_call hn hdf fun w s₀ z mg mb fa o pm cd doc a vs ns G Y ho hd hcd hmg hobj hints hlen hg => by
    obtain ⟨K, fd, sp, KX, hb, hsp, hF⟩ := F w mg fa _ Y G.T.g hmg
    exact law_callG KX G.T.g G.T.b G.T.builtins G.T.nolimit hg hobj hints (Nat.le_trans hlen hn2) hr hF hb fun H hO hS => hsp H a ns hlen hO hS
section
variable {X : Cx} {M : Mem} {Φ : VP}
theorem call_reprD (hg : X.A.guards = some []) : CallR X (.builtin "repr") (fun xs H Q => ∃ (a : Addr) (d : PyData), xs = [.ref a] ∧ Dp X.K H (.ref a) d ∧ d.showable = true ∧ d.hasDict = false ∧ X.A.units + (d.depth + 1) < cLine ∧ d.shown.length ≤ sizeLine ∧ Q (.str d.shown) H) := by
  intro pins s σ H xs us Q I r h
  obtain ⟨a, d, rfl, hd, h1, h2, h3, h4, q⟩ := h
  obtain ⟨u, rfl, ru⟩ := r.one
  cases ru
  obtain ⟨as, rd⟩ := Dp.reads I d (.ref a) (.ref a) hd rfl
  exact repr_of_reads' rd h1 (fun z => by rw [h2] at z; cases z) hg h3 (fun _ _ e => e) (fun h' u tk hk => ⟨.str d.shown, H, I.kept hk, ⟨_, rfl⟩, q⟩) h4
end
end Dt
set_option Elab.async false
set_option linter.all false
set_option maxRecDepth 100000
set_option maxHeartbeats 2000000
namespace Dt
open PySem PySem.Spec PyProof.Rows L2
mutual
/-- data that repr shows, with small numbers -/
def smD : D → Bool
  | .non => true
  | .bl _ => true
  | .int i => decide (i.natAbs < 10 ^ 100)
  | .str x => x.cps.toList.all fun c => decide (c < 16 ^ 8)
  | .tup xs => smDs xs
  | .lst xs => smDs xs
  | .ty _ => false
  | .obj _ _ => false
  | .adr _ => false
  | .dic _ => false
  | .exc _ _ _ _ => false
  | .exv _ _ => false
  | .dcs _ => false
def smDs : List D → Bool
  | [] => true
  | x :: xs => smD x && smDs xs
end
mutual
def costD : D → Nat
  | .non => 4
  | .bl _ => 5
  | .int _ => 101
  | .str x => 10 * x.length + 2
  | .tup xs => costDs xs + 3
  | .lst xs => costDs xs + 3
  | .ty _ => 0
  | .obj _ _ => 0
  | .adr _ => 0
  | .dic _ => 0
  | .exc _ _ _ _ => 0
  | .exv _ _ => 0
  | .dcs _ => 0
def costDs : List D → Nat
  | [] => 0
  | x :: xs => costD x + 2 + costDs xs
end
theorem log_of {i : Int} (h : i.natAbs < 10 ^ 100) : i.natAbs.log2 < 1920 := by
  by_cases h0 : i.natAbs = 0
  · rw [h0]
    decide
  · exact (Nat.log2_lt h0).mpr (Nat.lt_of_lt_of_le h (by decide +kernel))
mutual
theorem show_ok : ∀ d : D, smD d = true → okD d = true ∧ (py d).showable = true ∧ (py d).hasDict = false ∧ (py d).shown.length ≤ costD d
  | .non, _ => ⟨rfl, rfl, rfl, by decide +kernel⟩
  | .bl true, _ => ⟨rfl, rfl, rfl, by decide +kernel⟩
  | .bl false, _ => ⟨rfl, rfl, rfl, by decide +kernel⟩
  | .int i, h => ⟨rfl, decide_eq_true (log_of (of_decide_eq_true h)), rfl, by
    show (Str.ofString (toString i)).length ≤ 101
    rw [PySem.ofString_length]
    exact int_text_length_le10 (k := 100) (by decide) (of_decide_eq_true h)⟩
  | .str x, h => ⟨rfl, rfl, rfl, by
    show (reprText x).length ≤ 10 * x.length + 2
    exact PySem.StrLaws.reprText_len x fun c hc => of_decide_eq_true (List.all_eq_true.mp h c hc)⟩
  | .tup xs, h => by
    obtain ⟨h1, h2, h3, h4⟩ := shows_ok xs h
    refine ⟨h1, h2, h3, ?_⟩
    show (tupleText (PyData.shownAll (pys xs))).length ≤ costDs xs + 3
    have := tupleText_len_le (PyData.shownAll (pys xs))
    omega
  | .lst xs, h => by
    obtain ⟨h1, h2, h3, h4⟩ := shows_ok xs h
    refine ⟨h1, h2, h3, ?_⟩
    show (listText (PyData.shownAll (pys xs))).length ≤ costDs xs + 3
    have := listText_len_le (PyData.shownAll (pys xs))
    omega
theorem shows_ok : ∀ xs : List D, smDs xs = true → okDs xs = true ∧ PyData.showableAll (pys xs) = true ∧ PyData.hasDictAll (pys xs) = false ∧ ((PyData.shownAll (pys xs)).map (·.length)).sum + 2 * (PyData.shownAll (pys xs)).length ≤ costDs xs
  | [], _ => ⟨rfl, rfl, rfl, Nat.le_refl _⟩
  | x :: xs, h => by
    obtain ⟨a, b⟩ := Bool.and_eq_true_iff.mp (show (smD x && smDs xs) = true from h)
    obtain ⟨h1, h2, h3, h4⟩ := show_ok x a
    obtain ⟨g1, g2, g3, g4⟩ := shows_ok xs b
    refine ⟨?_, ?_, ?_, ?_⟩
    · show (okD x && okDs xs) = true
      rw [h1, g1]
      rfl
    · show ((py x).showable && PyData.showableAll (pys xs)) = true
      rw [h2, g2]
      rfl
    · show ((py x).hasDict || PyData.hasDictAll (pys xs)) = false
      rw [h3, g3]
      rfl
    · show (((py x).shown :: PyData.shownAll (pys xs)).map (·.length)).sum + 2 * ((py x).shown :: PyData.shownAll (pys xs)).length ≤ costD x + 2 + costDs xs
      rw [List.map_cons, List.sum_cons, List.length_cons]
      omega
end
section
variable {X : Cx} {Γ : Sl} {M : Mem} {Φ : VP} {e : Expr} {es : List Expr} {p : Pos}
theorem cd_reprL {x : D} {xs : List D} (hg : X.A.guards = some []) (hx : LstD M x xs) (sm : smDs xs = true) (hc : costDs xs + 3 ≤ sizeLine) (hu : X.A.units + (PyData.depthAll (pys xs) + 2) < cLine) (q : Φ (.str (py (.lst xs)).shown) M) : CaD X (.builtin "repr") [x] M Φ := cd_of (call_reprD hg) fun P H vs m h => by
  obtain ⟨v, rfl, hv⟩ := h.un1
  obtain ⟨h1, h2, h3, h4⟩ := show_ok (.lst xs) sm
  have hsee : SeenD M x (.lst xs) := by
    rcases hx with rfl | ⟨k, l, rfl, hk⟩
    · exact .inl rfl
    · exact .inr ⟨k, l, xs, rfl, hk, rfl⟩
  have hd := hsee.dp m hv h1
  obtain ⟨l, us, rfl, _, _⟩ := hx.at_ m hv
  exact ⟨_, _, rfl, hd, h2, h3, by show X.A.units + (PyData.depthAll (pys xs) + 1 + 1) < cLine; omega, Nat.le_trans h4 hc, .one q m .str⟩
end
end Dt
set_option Elab.async false
set_option linter.all false
set_option maxRecDepth 100000
set_option maxHeartbeats 2000000
namespace Dt
open PySem PySem.Spec PyProof.Rows L2
theorem _root_.L2.Room.un' {k n : Nat} {A : Around} (r : Room k A) (h : n ≤ 100) : A.units + n < cLine := by
  have := r.un
  omega
end Dt
set_option Elab.async false
set_option linter.all false
set_option maxRecDepth 100000
set_option maxHeartbeats 2000000
namespace Dt
open PySem PySem.Spec PyProof.Rows L2
section
variable {X : Cx} {Γ : Sl} {M : Mem} {a b : Expr} {body : List Stmt} {Ψ : Po} {pos p pos2 tpos : Pos} {elts : List Expr} {kk : Nat}
/-- for i, x in enumerate(a list) -/
theorem w1_forEL (hp : PassesOwn (model X.prog X.w) X.A X.env X.xe) (hc : X.calm = true) (hg : Gl X "enumerate") (hm : X.mg "enumerate" = none)
    (h : WA X Γ M [a] fun ds M1 => ∃ (Iv : Nat → Sl → Mem → Prop) (xs : List D), ds = [.lst xs] ∧ Iv 0 Γ M1 ∧ (∀ (i : Nat) (y : D) Γ' M', xs[i]? = some y → Iv i Γ' M' → GD X Γ' M' (.Tuple elts kk tpos) (.tup [.int (i : Int), y]) fun Γ2 M2 => WS X Γ2 M2 body { Ψ with nx := Iv (i + 1), ct := Iv (i + 1), bk := Ψ.nx }) ∧ ∀ Γ' M', Iv xs.length Γ' M' → Ψ.nx Γ' M')
    (hs : starEach [a] X.env = [(false, eval a X.env)] := by rfl) (hf : ∀ x, foldedSetIterable (.Call (.Name "enumerate" p) [a] [] pos2) X.env x = pure x := by intro _; rfl) : W1 X Γ M (.For (.Tuple elts kk tpos) (.Call (.Name "enumerate" p) [a] [] pos2) body [] pos) Ψ := fun P σ H s m =>
  wpS_of (ps_for hp hc (pi_enum hg hm pa_wp hs) pg_wp pss_wp hf) ((h P σ H s m).mono fun vs H1 ⟨ds, M1, P1, ⟨Iv, xs, ed, hI, hstep, hdone⟩, e1, m1, i1⟩ => by
    subst ed
    obtain ⟨v, rfl, hv⟩ := i1.un1
    cases hv with
    | @lst l vs _ hq hl hi =>
      refine ⟨l, vs, rfl, Same.seq m1.ex hq, fun i n σ' H' => n = xs.length - i ∧ i ≤ xs.length ∧ FinS X.K P1 (Iv i) σ' H', ⟨xs.length, rfl, Nat.zero_le _, Γ, M1, P1, hI, Same.refl P1, s.mono e1, m1⟩, ?_⟩
      rintro i n σ' H' ⟨rfl, hin, Γ', M', P', hI', e', s', m'⟩
      have hqq : SqL X.K H' l vs := Same.seq (e'.trans m'.ex) hq
      by_cases hlt : i < xs.length
      · have hx : vs[i]? = some (vs[i]'(by rw [hl]; exact hlt)) := List.getElem?_eq_getElem _
        obtain ⟨y, hy, iy⟩ := IsDs.getV (K := X.K) (P := P1) ⟨hl, hi⟩ hx
        refine .inr ⟨⟨vs, _, hqq, hx⟩, FinS X.K P1 (Iv (i + 1)), fun σ2 H2 z => ⟨xs.length - (i + 1), by omega, rfl, hlt, z⟩, fun x0 H2 ⟨T, x1, e0, hT, eH, hz⟩ => ?_⟩
        subst e0 eH
        have ex : x1 = vs[i]'(by rw [hl]; exact hlt) := Option.some.inj ((hz vs hqq).symm.trans hx)
        subst ex
        obtain ⟨m2, e2⟩ := m'.push (o := .tup [.int (i : Int), vs[i]'(by rw [hl]; exact hlt)]) hT
        refine (hstep i y Γ' M' hy hI' (upd P' T (.tup [.int (i : Int), vs[i]'(by rw [hl]; exact hlt)])) σ' _ (.ref T) (s'.mono e2) m2 (.tup (SqT.of upd_same) rfl (IsDs.cons .int (.cons (iy.mono (e'.trans e2)) .nil)).2)).mono fun σ2 H2 ⟨Γ2, M2, P2, q, e3, s2, mm2⟩ => (q P2 σ2 H2 s2 mm2).mono ?_
        exact ⟨fun _ _ z => z.up (e'.trans (e2.trans e3)), fun _ _ z => z.up (e1.trans (e'.trans (e2.trans e3))), fun _ _ z => z.up (e1.trans (e'.trans (e2.trans e3))), fun _ _ z => z.up (e'.trans (e2.trans e3))⟩
      · have ei : i = xs.length := by omega
        subst ei
        exact .inl ⟨⟨vs, hqq, by rw [hl]; exact Nat.le_refl _⟩, Γ', M', P', hdone Γ' M' hI', e1.trans e', s', m'⟩)
end
end Dt
set_option Elab.async false
set_option linter.all false
set_option maxRecDepth 100000
set_option maxHeartbeats 2000000
namespace Dt
open PySem PySem.Spec PyProof.Rows L2
section
variable {X : Cx} {Γ : Sl} {M : Mem} {e : Expr} {B : Bool → Mem → Prop}
/-- objects of one's own are forgotten -/
theorem we_less {Φ : VP} (h : WE X Γ M e fun d M1 => ∃ M2, M2.Sublist M1 ∧ Φ d M2) : WE X Γ M e Φ := fun P σ H s m => (h P σ H s m).mono fun v H2 ⟨d, M1, P1, ⟨M2, hs, q⟩, e1, m1, i1⟩ => ⟨d, M2, P1, q, e1, m1.sub hs, i1⟩
end
end Dt
set_option Elab.async false
set_option linter.all false
set_option maxRecDepth 100000
set_option maxHeartbeats 2000000
set_option Elab.async false
set_option linter.all false
set_option maxRecDepth 100000
set_option maxHeartbeats 4000000
namespace Dt
open PySem PySem.Spec PyProof.Rows L2
section
variable {X : Cx} {Γ : Sl} {M : Mem} {Φ : VP} {Ψ : Po} {e a b : Expr} {es : List Expr} {sts : List Stmt} {pos p pos' : Pos} {k : Nat} {x : Str} {i : Nat}
section
variable {ad dd C : Addr} {oe : Obj} {pn : List (Addr × Obj)} {fs : List (Str × D)} {f : Str} {d : D}
theorem cls_adr {K : PySem.W.Frag} {B : Addr} : ∀ P v u, IsD K P v (.adr B) → RelV v u → u = .ref B := fun P v u i r => by
  cases i
  exact r
theorem cls_ty {K : PySem.W.Frag} {n : String} : ∀ P v u, IsD K P v (.ty n) → RelV v u → u = .type n := fun P v u i r => by
  cases i
  exact r
end
end
end Dt
set_option Elab.async false
set_option linter.all false
set_option maxRecDepth 100000
set_option maxHeartbeats 4000000
set_option Elab.async false
set_option linter.all false
set_option maxRecDepth 100000
set_option maxHeartbeats 4000000
namespace Dt
open PySem PySem.Spec PyProof.Rows L2
theorem exb_ie : ExB "IndexError" "IndexError.__new__" "IndexError.__init__" ieT := .of F.excBase_IndexError PySem.W.kxs_IndexError F.store_IndexError.passes (by decide +kernel)
/-- an own error's class right over it -/
structure OexG (K : PySem.W.Frag) (C : Addr) (nid : String) (tl : List Value) : Prop where
  cls : ∃ nm q N bs sn sub ab col dd k0 k1 k2 k3 k5, K.lookup C = some (excClassObj nm q C N bs tl true sn sub ab col dd k0 k1 k2 k3 k5 nid)
  sa : PySem.W.findIn K (.ref C) "__setattr__" = some (some (.builtin "object.__setattr__"))
  exC : PySem.W.subIn K (.ref C) (.type "BaseException") = some true
  tyC : PySem.W.typeIn K (.ref C) = some (.type "type")
  kC : PySem.W.keepIn K (.ref C) = true
section
open Builtin Builtin.ObjectAttr
variable {prog : Program} {w : World} {A : Around} {E : Value → Shared → Prop} {R : Result → Shared → Prop} {h9 : Heap} {g : Array GenState} {dr : Drawn} {tn : Nat} {os : OsState} {B nid iid : String} {tl : List Value}
/-- object.__setattr__ on an error that has no dict as yet -/
theorem osaG (EB : ExB B nid iid tl) {K : PySem.W.Frag} {nam : Str} {tk : Tok} {v : Value} {e C : Addr} {fv : Array Value} {cd : ClassData} (X : K.In h9) (he : h9.get? e = some { cls := .ref C, data := .fields fv }) (hcd : PySem.W.clsIn K C = some cd) (hm : cd.mro = .ref C :: tl) (hh : cd.hasDict = true) (ha : PySem.W.findIn K (.ref C) nam = some none)
    (hq : ∀ h' tk' dx, (∀ b o, b ≠ e → h9.get? b = some o → h'.get? b = some o) → h9.objs.size ≤ dx → dx ≠ e → h'.get? e = some { cls := .ref C, dict := some dx, data := .fields fv } → h'.Ns1 dx (fun y => if y = nam then some v else none) → R (.ok (.ret .none)) ⟨h', g, dr, tk', os⟩) :
    codeAny (model prog w) A (.call (.builtin "object.__setattr__") ⟨[.ref e, .str nam tk, v], []⟩) R ⟨h9, g, dr, tn, os⟩ := by
  have I9 : PySem.W.InstAt h9 e { cls := .ref C, data := .fields fv } C none := ⟨he, rfl, rfl, trivial⟩
  have SO := F.store_object
  have hob : cd.mro.contains (.type "object") = true := by rw [hm, List.contains_cons, EB.hob, Bool.or_true]
  have hes : e ≠ h9.objs.size := Nat.ne_of_lt (Heap.lt_size he)
  have isO : PySem.W.Looks (model prog w) h9 (isInstance (.ref e) (.type "object")) true := I9.type.andThen (PySem.W.looks_mroIn X (by unfold PySem.W.mroIn; rw [hcd, Option.bind_some, if_neg (by rw [hm]; simp), hob]))
  refine codeAny_call_builtin SO.slot.plain SO.entry (@PySem.W.check_slot (model prog w) _ _ ⟨h9, g, dr, tn, os⟩ "object.__setattr__" "object" "__setattr__" (.ref e) [.str nam tk, v] [] _ SO.kind SO.split isO (SO.args (.ref e) (.str nam tk) v) ?_)
  have lm : PySem.W.Looks (model prog w) h9 (mroOf (.ref C)) cd.mro := (PySem.W.looks_clsIn X hcd).andThen .now
  have lt : PySem.W.Looks (model prog w) h9 (storeTaker? none) none := .now
  have lc : PySem.W.Looks (model prog w) h9 (classData C) cd := PySem.W.looks_clsIn X hcd
  rw [PySem.W.osa_eq, refuse_eq]
  refine wpAny_bind (wpAny_bind (I9.type.at (wpAny_bind (lm.at ?_))))
  rw [hm, refuseLoop_ref, EB.pas]
  refine wpAny_pure (wpAny_bind (I9.type.at (wpAny_bind ((PySem.W.looks_findIn X ha).at (wpAny_bind (lt.at ?_))))))
  show wpAny _ _ (storeInOwnDict (.ref e) (.ref C) (.str nam tk) nam v false) _ _ _
  obtain ⟨c1, c2, c3, c4, c5, c6, c7, c8, c9, c10, c11⟩ := cd
  dsimp only at hh
  subst hh
  unfold storeInOwnDict ownDictForStores
  repeat (first | with_reducible refine PySem.HandSPX.store_in_new ?_ ?_ | with_reducible refine wpAny_loadPart_at he ?_ | with_reducible refine lc.at ?_ | wp_step)
  · exact ⟨_, #[], _, (Heap.get?_update_ne _ _ _ _ hes.symm).trans (Heap.get?_push_at rfl rfl), rfl, fun z hz => absurd hz (by simp), fun _ => rfl⟩
  · intro h' tk' hn' hs
    have he1 : (h9.push { cls := .type "dict", data := .dict #[] }).get? e = some { cls := .ref C, data := .fields fv } := Heap.get?_push_of_some _ he
    refine hq h' tk' h9.objs.size (fun b o hb ho => ?_) (Nat.le_refl _) hes.symm ?_ hn'
    · exact (hs.2 b (Nat.ne_of_lt (Heap.lt_size ho))).trans ((Heap.get?_update_ne _ _ _ _ hb).trans (Heap.get?_push_of_some _ ho))
    · exact (hs.2 e hes).trans (Heap.get?_update_self _ he1 rfl)
end
section
variable {X : Cx} {pins : List (Addr × Obj)} {σ : L2.St} {H : Hp} {s : Shared} {a C : Addr} {f : Str} {y : V} {u : Value} {Q : Unit → Shared → Prop} {E : Value → Shared → Prop} {A : Around} {B nid iid : String} {tl : List Value}
/-- self.f = y, the first one -/
theorem ostG (EB : ExB B nid iid tl) (T : OexG X.K C nid tl) (I : Inv X pins σ H s) (ea : H a = some (exo a C none)) (hno : PySem.W.findIn X.K (.ref C) f = some none) (ry : RelV y u)
    (hq : ∀ dx s', H dx = none → dx ≠ a → Inv X pins σ (upd (upd H dx (exd dx [(f, y)])) a (exo a C (some dx))) s' → Q () s') : wpAny (model X.prog X.w) A (setAttr (.ref a) f u) Q E s := by
  obtain ⟨nm, qn, N, bs, sn, sub, ab, col, dd, k0, k1, k2, k3, k5, hC⟩ := T.cls
  have hcl : PySem.W.clsIn X.K C = some { name := nm, bases := bs, mro := .ref C :: tl, ns := N, qualname := qn, hasDict := true, slotNames := sn, subclasses := sub, abstract := ab, collection := col, hasDel := false } := by unfold PySem.W.clsIn; rw [hC] <;> rfl
  obtain ⟨t1, ho⟩ := exo_at I.hok ea
  obtain ⟨hp, g, d, t, os⟩ := s
  refine PySem.W.set_plain I.kIn (ox := { cls := .ref C, dict := none, data := .fields #[.ref t1, .none, .none, .none, .bool false, .none] }) (od := none) ⟨ho, rfl, rfl, trivial⟩ T.sa (osaG EB I.kIn ho hcl rfl rfl hno (fun h' tk' dx k dn dne hx hn => ?_))
  have hnd : H dx = none := I.hok.fresh dn
  have ndx : ∀ {b : Addr} {o : Obj}, hp.get? b = some o → b ≠ dx := fun {b o} z => Nat.ne_of_lt (Nat.lt_of_lt_of_le (Heap.lt_size z) dn)
  have nax : ∀ {b : Addr}, H b = none → b ≠ a := fun {b} n z => by
    rw [z, ea] at n
    cases n
  have un : Un X.fs [] H (upd (upd H dx (exd dx [(f, y)])) a (exo a C (some dx))) hp h' := ⟨fun b o z n _ _ => k b o (nax n) z, fun b o z n _ _ => ⟨o.slots, k b o (nax n) z⟩, fun b o z n _ => (by rw [upd_ne (nax n), upd_ne (ndx z)]; exact n),
    fun b o z _ => (by
      by_cases hb : b = a
      · exact ⟨_, hb ▸ hx⟩
      · exact ⟨o, k b o hb z⟩),
    fun b xs z => (by rw [upd_ne (at_ne ea z exo_tup), upd_ne (ne_of_none z hnd)]; exact z), fun b o v z => (by rw [upd_ne (at_ne ea z exo_frz), upd_ne (ne_of_none z hnd)]; exact z), fun b ps z => ⟨#[], by rw [upd_ne (at_ne ea z exo_tbl), upd_ne (ne_of_none z hnd), z]; simp⟩⟩
  refine hq dx _ hnd dne (I.un (t' := tk') un fun b o z => ?_)
  by_cases hb : b = a
  · subst hb
    rw [upd_same] at z
    cases z
    exact exo_ok hx
  rw [upd_ne hb] at z
  by_cases hd : b = dx
  · subst hd
    rw [upd_same] at z
    cases z
    exact exd_ok hn (relO_put (fs := []) ry fun _ => True.intro)
  rw [upd_ne hd] at z
  exact (I.hok b o z).stay (fun c v hc w => k c v (hc.elim (fun hc => hc ▸ hb) fun hc => at_ne ea hc exo_own) w) (fun c hc => by rw [upd_ne (at_ne ea hc exo_own), upd_ne (ne_of_none hc hnd)]; exact hc) (fun c xs hc => by rw [upd_ne (at_ne ea hc exo_tup), upd_ne (ne_of_none hc hnd)]; exact hc)
end
section
variable {X : Cx} {o e : Expr} {to te : TE} {f : Str} {p' pos : Pos} {C : Addr} {B nid iid : String} {tl : List Value}
def tOsG (C : Addr) (f : Str) (to te : TE) : TS := fun D σ H => te σ H fun y H1 => to σ H1 fun x H2 => ∃ a : Addr, x = .ref a ∧ H2 a = some (exo a C none) ∧ ∀ dx, H2 dx = none → dx ≠ a → D.nx σ (upd (upd H2 dx (exd dx [(f, y)])) a (exo a C (some dx)))
theorem ps_ostG (EB : ExB B nid iid tl) (T : OexG X.K C nid tl) (hno : PySem.W.findIn X.K (.ref C) f = some none) (ho : PE X o to) (he : PE X e te) (hs : swapsWith e (some (.Attribute o f p')) pos.line X.env = pure false) : PS X (.Assign [.Attribute o f p'] e pos) (tOsG C f to te) := by
  refine ⟨fun pins s σ H D I h => plainObj_wpAny_Assign_Attribute (thn (he.run pins s σ H _ I h) fun v s1 ⟨y, H1, I1, r1, q1⟩ => thn (ho.run pins s1 σ H1 _ I1 q1) fun u s2 ⟨x, H2, I2, r2, a, ex, ea, q⟩ => ?_) hs⟩
  subst ex
  obtain rfl : u = Value.ref a := r2
  exact ostG EB T I2 ea hno r1 fun dx s' n ne J => ⟨σ, _, J, q dx n ne⟩
end
/-- what the class at C and its __init__ must be -/
structure SupG (P : Program) (K : PySem.W.Frag) (C cc cda : Addr) (x : Str) (B nid iid : String) (tl : List Value) : Prop where
  oex : OexG K C nid tl
  along : PySem.W.ks_superIn K C C "__init__" = some (some (.builtin iid))
  sub : PySem.W.mroIn K C (.ref C) = some true
  val : PySem.W.subIn K (.ref C) (.type B) = some true
  opq : PySem.W.nsIn K cStatics "thirdparty.any" = some none
  noa : PySem.W.findIn K (.ref C) x = some none
  sup : PySem.W.nsIn K mainGlobals "super" = some none
  cell : ∃ cl cld csl, K.lookup cc = some ⟨cl, cld, .cell (some (.ref C)), csl⟩
  code : ∃ ccl cdd vs ccs file tf, K.lookup cda = some ⟨ccl, cdd, .fields vs, ccs⟩ ∧ vs[2]? = some (.str file tf) ∧ ((P.main.file : Str) == file) = true
  top : (P.main.scope.names.lookup ("super" : Str)).isSome = false
section
variable {P : Program} {w : World} {A : Around} {E : Value → Shared → Prop} {hp : Heap} {g : Array GenState} {d : Drawn} {t : Nat} {os : OsState} {K : PySem.W.Frag} {C a u : Addr}
/-- the bound built-in __init__ is called -/
theorem callMwG {B nid iid : String} {tl : List Value} {rest : List Value} {t0 : Addr} {Q : Value → Shared → Prop} (EB : ExB B nid iid tl) (T : OexG K C nid tl) (X : K.In hp) (hu : hp.get? u = some (PySem.W.kxs_mw iid a)) (ha : hp.get? a = some (PySem.W.excObj C t0 none .none)) (hz : rest.length ≤ sizeLine)
    (h : ∀ h' t1, (∀ b o, b ≠ a → hp.get? b = some o → h'.get? b = some o) → h'.get? a = some (PySem.W.excObj C t1 none .none) → Q .none ⟨h', g, d, t, os⟩) : wpAny (model P w) A (call (.ref u) rest) Q E ⟨hp, g, d, t, os⟩ := by
  obtain ⟨nm, q, N, bs, sn, sub, ab, col, dd, k0, k1, k2, k3, k5, hC⟩ := T.cls
  refine wpAny_call (codeAny_of_tree (show wpAny _ A.in1 (callAny (.ref u) ⟨rest, []⟩) _ _ _ from ?_))
  simp only [callAny]
  refine wpAny_bind (wpAny_load hu ?_)
  have e : (Value.type "method-wrapper" == Value.type "method" || Value.type "method-wrapper" == Value.type "builtin_function_or_method" || Value.type "method-wrapper" == Value.type "method-wrapper") = true := by decide
  simp only [PySem.W.kxs_mw, e, if_true]
  refine PySem.W.KFB.if_so (by decide) (wpAny_bind (EB.ini (X _ _ hC) ha rfl (wpAny_bind (wpAny_pure (wpAny_pure ⟨plainId_quiet EB.ipl _, codeAny_builtin EB.ient ?_⟩)))))
  exact PySem.W.exc_init_tree (cls := .ref C) (c2 := .none) (c3 := .none) (b4 := .bool false) ha hz fun h' k1 k2 _ => h h' _ k1 k2
end
section
variable {P : Program} {w : World} {K : PySem.W.Frag} {mg : Str → Option Value} {base : Heap} {C cc cda f : Addr} {x name qual : Str} {params : Arguments} {scope : Scope} {dV kV doc pm ct oc : Value} {an od : Option Addr} {osl : Array (Option Value)} {ar : Arg}
theorem inv_supG {CX : CXT} {A : Around} {outer : List Env} {s : Shared} {H : Hp} {E : XK} {h0 : Heap} {tk : Nat} {a : Addr} {y : V} {u1 : Value} (Scell : ∃ cl cld csl, K.lookup cc = some ⟨cl, cld, .cell (some (.ref C)), csl⟩) (Sc : SupS scope x) (hx : x ≠ "self") (hx2 : x ≠ "__class__") (hd : A.handled = none) (e0 : Env0 P w K mg base A outer s H)
    (hns : h0.Ns s.heap.objs.size (fun z => ([("self", Value.ref a), (x, u1)] : List (Str × Value)).reverse.lookup z)) (hk : ∀ b o, s.heap.get? b = some o → h0.get? b = some o) (ru : RelV y u1) :
    Inv (cxS CX P w K mg base x qual scope f cda cc A outer s H E) [] [some (.ref a), some y] H { s with heap := h0, toks := tk } := by
  obtain ⟨cl, cld, csl, hcell⟩ := Scell
  have hbc := e0.mod.kin _ _ hcell
  have hclk : ∀ z c, (PySem.W.ksEnv qual scope s.heap.objs.size f (.ref cda) cc).cells.lookup z = some c → z = "__class__" ∧ c = cc := fun z c h => by
    have h : ([(("__class__" : Str), cc)] : List (Str × Addr)).lookup z = some c := h
    by_cases hz : z = "__class__"
    · subst hz
      simp at h
      exact ⟨rfl, h.symm⟩
    · have : (z == ("__class__" : Str)) = false := by simpa using hz
      rw [List.lookup_cons, this] at h
      cases h
  refine ⟨⟨e0.mod, Sc.kind, rfl, rfl, Nat.le_refl _, fun z1 z2 c h1 h2 => ?_, fun z hz => ?_, fun z c h1 h2 => ?_, fun _ => hd, Around.frames_deeper e0.frames, .inr ⟨rfl, rfl⟩, fun b z => absurd z (by simp), e0.bs, e0.bsz, fun b _ _ => (by simp), fun b z => absurd z (by simp), e0.funs, e0.frf⟩,
    rfl, e0.bare, Un.kept hk, ⟨_, hns, fun i z v h1 h2 h3 => ?_⟩, fun z c h => ?_, e0.hok.fresh (Nat.le_refl _), fun z c h => ?_, fun p hp => absurd hp (by simp), e0.hok.kept hk, rfl⟩
  · rw [(hclk z1 c h1).1, (hclk z2 c h2).1]
  · have hz : scope.names.lookup z = some .cell ∨ scope.names.lookup z = some .free := hz
    rcases hz with hz | hz
    · exact absurd rfl (Sc.noc _ (lk_mem hz))
    · have e := Sc.fre _ (lk_mem hz) rfl
      dsimp only at e
      subst e
      exact ⟨cc, by simp⟩
  · obtain ⟨e, _⟩ := hclk z c h2
    subst e
    cases h1
  · match i, h1, h2 with
    | 0, h1, h2 =>
      cases h1
      cases h2
      refine ⟨.ref a, rfl, .inl ⟨Sc.self, ?_⟩⟩
      have : (("self" : Str) == x) = false := by simpa using hx.symm
      simp [List.lookup_cons, this]
    | 1, h1, h2 =>
      cases h1
      cases h2
      exact ⟨u1, ru, .inl ⟨Sc.arg, by simp⟩⟩
    | i + 2, h1, h2 => simp at h1
  · obtain ⟨_, e⟩ := hclk z c h
    subst e
    exact ⟨_, _, hk _ _ (e0.bs _ _ hbc).1, rfl⟩
  · obtain ⟨_, e⟩ := hclk z c h
    subst e
    exact (e0.bs _ _ hbc).2
/-- THE RULE: the def itself -/
theorem fn_supG {B nid iid : String} {tl : List Value} (EB : ExB B nid iid tl) {CX : CXT} {k : Nat} {p0 p1 p2 p3 p4 p5 p6 p7 p8 p9 : Pos} {pl : Sem Bool}
    (lk : K.lookup f = some ⟨oc, od, .func (PySem.W.ksFn name qual params [.Expr (.Call (.Attribute (.Call (.Name "super" p0) [] [] p1) "__init__" p2) [.Name x p3] [] p4) p5, .Assign [.Attribute (.Name "self" p6) x p7] (.Name x p8) p9] scope dV kV doc pm an (.ref cda) ct cc), osl⟩)
    (hcd : PySem.W.codeIn K (.ref cda) qual = true) (S : SupG P K C cc cda x B nid iid tl) (Sc : SupS scope x) (hx : x ≠ "self") (hx2 : x ≠ "__class__") (hdb : (x == ("__debug__" : Str)) = false) (hdc : (x == ("__classdict__" : Str)) = false)
    (hp : (params.posonlyargs ++ params.args).head? = some ar) (har : ar.arg = "self")
    (hev : ∀ env : Env, eval (.Call (.Attribute (.Call (.Name "super" p0) [] [] p1) "__init__" p2) [.Name x p3] [] p4) env = (do
      let ov ← attributeBase (.Call (.Name "super" p0) [] [] p1) "__init__" env (eval (.Call (.Name "super" p0) [] [] p1) env)
      standAt p2.atName
      let (f, first) ← holding [ov] (getMethod ov "__init__" pl)
      callWith p4 f first (backTo p4 (starEach [.Name x p3] env)) []))
    (hsw : ∀ env : Env, swapsWith (.Call (.Attribute (.Call (.Name "super" p0) [] [] p1) "__init__" p2) [.Name x p3] [] p4) none p5.line env = pure false) (hsw2 : ∀ env : Env, swapsWith (.Name x p8) (some (.Attribute (.Name "self" p6) x p7)) p9.line env = pure false) :
    FnOk P w K mg base CX (k + 1) f (PySem.W.ksFn name qual params [.Expr (.Call (.Attribute (.Call (.Name "super" p0) [] [] p1) "__init__" p2) [.Name x p3] [] p4) p5, .Assign [.Attribute (.Name "self" p6) x p7] (.Name x p8) p9] scope dV kV doc pm an (.ref cda) ct cc) ["self", x] (spSup C x) := by
  refine ⟨fun vs H Q E ⟨a, y, e, _⟩ => by rw [e]; rfl, fun A outer s H args us vs Q E hr e0 hb r hsp => ?_⟩
  obtain ⟨a, y, rfl, ha, hq⟩ := hsp
  obtain ⟨u1, rfl, ru1⟩ : ∃ u1, us = [.ref a, u1] ∧ RelV y u1 := by
    cases r with
    | cons r0 r1 =>
      cases r1 with
      | cons r1 r2 =>
        cases r2
        cases r0
        exact ⟨_, rfl, r1⟩
  have KX : K.In s.heap := e0.mod.kin.keeps fun b o e => (e0.bs b o e).1
  have lim : s.heap.NoLimit := e0.mod.nolimit.keeps fun b o e => (e0.bs b o e).1
  refine ks_codeAny_call_defAt (binds := [("self", .ref a), (x, u1)]) hr.depth (KX _ _ lk) rfl lim (PySem.W.codeRec_of KX hcd) rfl hb Sc.noc (fun z hz => ?_) (fun h0 hns hk => ?_) Sc.co Sc.gen Sc.kind
  · simp only [List.mem_cons, List.not_mem_nil, or_false] at hz
    rcases hz with rfl | rfl
    · exact Sc.self
    · exact Sc.arg
  have I := inv_supG (CX := CX) (E := E) (tk := s.toks + 2) (qual := qual) (f := f) (cda := cda) S.cell Sc hx hx2 hr.hd e0 hns hk ru1
  obtain ⟨t0, ho⟩ := exo_at I.hok ha
  have KX0 : K.In h0 := I.kIn
  obtain ⟨ccl, cdd, vs, ccs, file, tf, hcode, hvs, hfile⟩ := S.code
  obtain ⟨cl, cld, csl, hcell⟩ := S.cell
  obtain ⟨nm, q, N, bs, sn, sub, ab, col, dd, k0, k1, k2, k3, k5, hC⟩ := S.oex.cls
  obtain ⟨mb, hmb, hmb2⟩ := e0.mod.blt
  have hst : base.StaysIn h0 := fun b o e => hk b o (e0.bs b o e).1
  obtain ⟨hh, g, d, tk, os⟩ := s
  have hcl : PySem.W.clsIn K C = some { name := nm, bases := bs, mro := .ref C :: tl, ns := N, qualname := q, hasDict := true, slotNames := sn, subclasses := sub, abstract := ab, collection := col, hasDel := false } := by unfold PySem.W.clsIn; rw [hC] <;> rfl
  have hal := S.along
  unfold PySem.W.ks_superIn at hal
  rw [hcl, Option.bind_some] at hal
  have J0 : PySem.W.InstAt h0 a _ C none := ⟨ho, rfl, rfl, trivial⟩
  have hin : interactive (PySem.W.ksEnv qual scope hh.objs.size f (.ref cda) cc) = false := by
    unfold interactive
    simp [Sc.kind]
  have hlx : ([("self", Value.ref a), (x, u1)] : List (Str × Value)).reverse.lookup x = some u1 := by simp
  have hls : ([("self", Value.ref a), (x, u1)] : List (Str × Value)).reverse.lookup ("self" : Str) = some (Value.ref a) := by
    have e : (("self" : Str) == x) = false := by simpa using hx.symm
    simp [List.lookup_cons, e]
  refine ks_wpAt_execs_cons (ks_wpAt_Expr_any (ks_wpAt_MethodCall (pl := pl) (ks_wpAt_super_base (ar := ar) Sc.sup Sc.cls (by decide) rfl (KX0 _ _ lk) rfl hp rfl (KX0 _ _ hcode) rfl hvs hfile S.top ?_) (hev _)) hin (hsw _))
  refine PySem.W.ks_loadName_global Sc.kind Sc.sup (PySem.Calls.loadGlobal_builtin (e0.mod.glob.keeps hst) (PySem.W.mg_none_of e0.mod.kin e0.mod.glob S.sup) (hmb.keeps hst) ((hmb2 _ (by decide +kernel)).trans (show bootBuiltins "super" = some (.type "super") by decide +kernel)) ⟨rfl, ?_⟩)
  refine wpAny_loadName_free Sc.kind Sc.cls rfl ⟨_, KX0 _ _ hcell, rfl⟩ ?_
  rw [har]
  refine wpAny_loadName_local Sc.kind Sc.self hns hls ?_
  refine ks_wpAny_isType_cls (KX0 _ _ hC) rfl ⟨rfl, ?_⟩
  refine ks_wpAny_call_super (KX0 _ _ hC) rfl ho rfl (fun c e => by cases e) (PySem.W.looks_mroIn KX0 S.sub) (fun h1 e1 kk1 => ?_)
  have KX1 : K.In h1 := KX0.keeps kk1
  have J1 : PySem.W.InstAt h1 a _ C none := ⟨kk1 _ _ ho, rfl, rfl, trivial⟩
  refine PySem.W.kxs_getMethod EB.kxs e1 (PySem.W.looks_opaque KX1 S.opq) (l₀ := .ref C :: tl) (fun A Q E s k q => wpAny_bind ((PySem.W.looks_clsIn KX1 hcl) A _ E s k (wpAny_pure q))) rfl KX1 hal (J1.type.andThen (PySem.W.looks_subIn KX1 S.val)) (PySem.W.ks_ne KX1 J1 hcl) (by decide) ?_
  have kk2 : ∀ b o, h0.get? b = some o → (h1.push (PySem.W.kxs_mw iid a)).get? b = some o := fun b o e => Heap.get?_push_of_some _ (kk1 b o e)
  refine PySem.W.kxs_callWith (i := iid) (x := a) rfl (PySem.Calls.evalArgs_plain ?_)
  refine args_cons (e := .Name x p3) (env := PySem.W.ksEnv qual scope hh.objs.size f (.ref cda) cc) (rest := []) ?_
  refine ESX.ldL (env := PySem.W.ksEnv qual scope hh.objs.size f (.ref cda) cc) (hns.keeps kk2) hlx ?_ Sc.kind Sc.arg hdb
  refine args_nil ⟨Heap.get?_push_size _ rfl, ?_⟩
  refine callMwG EB S.oex (KX0.keeps kk2) (Heap.get?_push_size _ rfl) (kk2 _ _ ho) (by show 1 ≤ sizeLine; decide) fun h3 t1 k3 hx3 => ?_
  have I3' := I.write (t' := tk + 2 + 1) (x := a) (e := a) (o := exo a C none) (h' := h3) (by rw [ha]; trivial) (.inl rfl) (fun b o hb e => k3 b o hb (kk2 b o e)) ⟨_, hx3⟩ (exo_ok hx3)
  have eH : upd H a (exo a C none) = H := by
    funext b
    unfold upd
    split
    · rename_i z
      rw [z, ha]
    · rfl
  rw [eH] at I3'
  refine ks_wpAt_execs_cons (wpAt_of_wpAny ?_)
  have hp2 := (ps_ostG EB S.oex S.noa (pe_var (X := cxS CX P w K mg base x qual scope f cda cc A outer ⟨hh, g, d, tk, os⟩ H E) (i := 0) rfl (.inl Sc.self) (by decide) (by decide)) (pe_var (i := 1) rfl (.inl Sc.arg) hdb hdc) (hsw2 _)).run [] _ _ H { nx := fun _ H' => Q .non H', rt := fun _ _ => False, bk := fun _ _ => False, ct := fun _ _ => False } I3' ⟨y, rfl, .ref a, rfl, a, rfl, ha, fun dx h1 h2 => hq dx h1 h2⟩
  refine wpAny_mono hp2 (fun fl s4 h4 => ?_) fun e s4 h4 => h4
  cases fl with
  | next =>
    obtain ⟨σ4, H4, J4, q4⟩ := h4
    exact wpAt_of_wpAny (wpAny_execs_nil ⟨.non, H4, J4.os, J4.bare, J4.base, J4.hok, rfl, q4⟩)
  | brk =>
    obtain ⟨_, _, _, z⟩ := h4
    exact z.elim
  | cont =>
    obtain ⟨_, _, _, z⟩ := h4
    exact z.elim
  | ret u =>
    obtain ⟨_, _, _, _, _, z⟩ := h4
    exact z.elim
end
section
variable {X : Cx} {e : Expr} {es : List Expr} {ta : TA} {p pos : Pos} {B nid iid : String} {tl : List Value}
/-- C(e, ..) that is to be raised -/
theorem pmk_oexG (EB : ExB B nid iid tl) {CX : CXT} {x : Str} {C fI : Addr} {k : Nat} {fd : FuncData} {ps : List Str} {sp : Sp} (T : OexG X.K C nid tl) (iC : PySem.W.findIn X.K (.ref C) "__init__" = some (some (.ref fI))) (tI : PySem.W.typeIn X.K (.ref fI) = some (.type "function")) (F1 : FnOk X.prog X.w X.K X.mg X.base CX k fI fd ps sp) (hr : Room (k + 1) X.A) (hb : Binds X.K fd ps [])
    (hx : Passes CX X (fun _ _ _ => False)) (hg : Gl X x) (hm : X.mg x = some (.ref C)) (ha : PA X (e :: es) ta) (hdb : (x == ("__debug__" : Str)) = false) (he : starEach (e :: es) X.env = (false, eval e X.env) :: starEach es X.env) (hpl : (backTo pos (starEach es X.env)).any (·.1) = false) : PMk X (.Call (.Name x p) (e :: es) [] pos) (tMkO C sp [] ta) := by
  intro pins s σ H Q I h
  obtain ⟨nm, qn, N, bs, sn, sub, ab, col, dd, k0, k1, k2, k3, k5, hC⟩ := T.cls
  refine wpAny_Call_Name_kw (ld_glob I hg hm ?_ hdb)
  refine PySem.W.callWith_K (h₀ := X.base) I.ok.mod.kin T.kC (thn (ha.run pos pins s σ H _ I h) fun us s1 ⟨vs, H1, I1, r1, hz, q1⟩ => ⟨I1.kIn, show wpAny _ _ (call (.ref C) us) _ _ _ from ?_⟩) he hpl
  obtain ⟨h9, g, dr, tk, os⟩ := s1
  have sz : h9.objs.size ≤ h9.objs.size + 1 := Nat.le_succ _
  have hn : H1 (h9.objs.size + 1) = none := I1.hok.fresh sz
  have hq := q1 (h9.objs.size + 1) hn
  rw [List.append_nil] at hq
  let G : Heap := (h9.push (PySem.W.kdv_tup us)).push (PySem.HandSPX.excO C h9.objs.size)
  have kG : ∀ b o, h9.get? b = some o → G.get? b = some o := fun b o z => Heap.get?_push_of_some _ (Heap.get?_push_of_some _ z)
  have atG : G.get? (h9.objs.size + 1) = some (PySem.HandSPX.excO C h9.objs.size) := by
    show ((h9.push (PySem.W.kdv_tup us)).push (PySem.HandSPX.excO C h9.objs.size)).get? (h9.objs.size + 1) = _
    heap_get
  have I2 : Inv X pins σ (upd H1 (h9.objs.size + 1) (exo (h9.objs.size + 1) C none)) ⟨G, g, dr, tk, os⟩ := I1.laid (t' := tk) (a := h9.objs.size + 1) (o := exo (h9.objs.size + 1) C none) (h' := G) kG sz (exo_ok atG)
  have r2 : Vals (V.ref (h9.objs.size + 1) :: vs) (Value.ref (h9.objs.size + 1) :: us) := .cons rfl r1
  have hl : (Value.ref (h9.objs.size + 1) :: us ++ []).length = ps.length := by
    rw [List.append_nil, ← r2.length]
    exact F1.len _ _ _ _ hq
  have hbt := hb _ (Value.ref (h9.objs.size + 1) :: us) I2.kIn hl
  rw [List.append_nil] at hbt
  have hus : us.length ≤ sizeLine := by
    rw [← Paired.length r1, sizeLine_eq]
    omega
  refine wpAny_call (EB.call (I1.kIn _ _ hC) (PySem.W.looks_findIn I1.kIn iC) (fun self => PySem.W.bind_fn I1.kIn self tI) hus (codeAny_mono (F1.run _ X.stack _ _ ⟨Value.ref (h9.objs.size + 1) :: us, []⟩ _ _ _ (fun _ _ _ => False) (hr.make C us []) (I2.env0.make C us []) hbt r2 hq) fun rr s' hq' => ?_))
  match rr, hq' with
  | .error er, hq' => exact hx pins σ _ _ er s' I2 hq'
  | .ok .next, hq' => exact (show False from hq').elim
  | .ok .brk, hq' => exact (show False from hq').elim
  | .ok .cont, hq' => exact (show False from hq').elim
  | .ok (.ret u), hq' =>
    obtain ⟨v, H2, os2, bare2, un2, hok2, rv, ev, d, fs, e1, e2, hd1, q2⟩ := hq'
    subst ev
    obtain ⟨h2, g2, d2, t2, os'⟩ := s'
    exact ⟨rv, mk_end (raises_own T.exC T.tyC) I1 sz kG un2 hok2 os2 bare2 e1 e2 hd1 q2⟩
end
/-- an own error's class right over a built-in one -/
def HasExG (P : Program) (w : World) (K : PySem.W.Frag) (mg : Str → Option Value) (base : Heap) (k : Nat) (C : Addr) (n x : Str) : Prop :=
  ∃ (B nid iid : String) (tl : List Value), ExB B nid iid tl ∧ ∃ fI fd ps, OexG K C nid tl ∧ PySem.W.findIn K (.ref C) "__init__" = some (some (.ref fI)) ∧ PySem.W.typeIn K (.ref fI) = some (.type "function") ∧ FnOk P w K mg base CX0 k fI fd ps (spSup C x) ∧ Binds K fd ps [] ∧ mg n = some (.ref C)
theorem oexGB_ok {K : Fg} {C : Addr} {nid : String} {tl : List Value} (h : oexGB K C nid tl = true) : OexG K C nid tl := by
  unfold oexGB at h
  obtain ⟨h1, h⟩ := Bool.and_eq_true_iff.mp h
  obtain ⟨h2, h⟩ := Bool.and_eq_true_iff.mp h
  obtain ⟨h3, h⟩ := Bool.and_eq_true_iff.mp h
  obtain ⟨h4, h5⟩ := Bool.and_eq_true_iff.mp h
  refine ⟨?_, He.eqO_ok h2, of_decide_eq_true h3, of_decide_eq_true h4, h5⟩
  split at h1
  · rename_i c dd cd sl hl
    split at h1
    · rename_i C' bm k0 k1 k2 k3 n k5 hm hs
      obtain ⟨e1, h1⟩ := Bool.and_eq_true_iff.mp h1
      obtain ⟨e2, h1⟩ := Bool.and_eq_true_iff.mp h1
      obtain ⟨e3, h1⟩ := Bool.and_eq_true_iff.mp h1
      obtain ⟨e4, h1⟩ := Bool.and_eq_true_iff.mp h1
      obtain ⟨e5, e6⟩ := Bool.and_eq_true_iff.mp h1
      have e1 := of_decide_eq_true e1
      have e2 := of_decide_eq_true e2
      have e3 := of_decide_eq_true e3
      have e7 : cd.hasDel = false := by simpa using e5
      obtain ⟨c1, c2, c3, c4, c5, c6, c7, c8, c9, c10, c11⟩ := cd
      dsimp only at hm e4 e7
      have e8 := beq_iff_eq.mp e6
      subst hm e1 e2 e4 e7
      have es : sl = #[k0, k1, k2, k3, some (.builtin n), k5] := by
        have z := congrArg List.toArray hs
        rw [Array.toArray_toList] at z
        exact z
      subst es e3 e8
      exact ⟨c1, c5, c4, c2, c7, c8, c9, c10, dd, k0, k1, k2, k3, k5, hl⟩
    · cases h1
  · cases h1
theorem hasExG {B nid iid : String} {tl : List Value} (EB : ExB B nid iid tl) {P : Program} {w : World} {K : Fg} {h base : Heap} {mg : Str → Option Value} {k : Nat} {n x : Str} {d : Df} {p0 p1 p2 p3 p4 p5 p6 p7 p8 p9 : Pos} {pl : Sem Bool} {ar : Arg} (X : K.In h) (G : h.Ns mainGlobals mg) (hl : d.loc K = He.ma K (He.ga K n) "__init__") (h1 : seeX K (d.loc K) = d.toldX) (h2 : supGB B nid iid tl P.main.file K (He.ga K n) x d.qu = true)
    (g2 : (He.Fa.glo n).ok K = true) (ht : (P.main.scope.names.lookup ("super" : Str)).isSome = false)
    (hbo : d.bo = [.Expr (.Call (.Attribute (.Call (.Name "super" p0) [] [] p1) "__init__" p2) [.Name x p3] [] p4) p5, .Assign [.Attribute (.Name "self" p6) x p7] (.Name x p8) p9]) (Sc : SupS d.sc x) (hx : x ≠ "self") (hx2 : x ≠ "__class__") (hdb : (x == ("__debug__" : Str)) = false) (hdc : (x == ("__classdict__" : Str)) = false)
    (hp : (d.pa.posonlyargs ++ d.pa.args).head? = some ar) (har : ar.arg = "self")
    (hev : ∀ env : Env, eval (.Call (.Attribute (.Call (.Name "super" p0) [] [] p1) "__init__" p2) [.Name x p3] [] p4) env = (do
      let ov ← attributeBase (.Call (.Name "super" p0) [] [] p1) "__init__" env (eval (.Call (.Name "super" p0) [] [] p1) env)
      standAt p2.atName
      let (f, first) ← holding [ov] (getMethod ov "__init__" pl)
      callWith p4 f first (backTo p4 (starEach [.Name x p3] env)) []))
    (hsw : ∀ env : Env, swapsWith (.Call (.Attribute (.Call (.Name "super" p0) [] [] p1) "__init__" p2) [.Name x p3] [] p4) none p5.line env = pure false) (hsw2 : ∀ env : Env, swapsWith (.Name x p8) (some (.Attribute (.Name "self" p6) x p7)) p9.line env = pure false)
    (hbind : ∀ (kV doc pm : Value) (an : Option Addr) (cdv ct : Value) (cc : Addr) (us : List Value), us.length = 2 → bindArgs (PySem.W.ksFn d.nm d.qu d.pa d.bo d.sc .none kV doc pm an cdv ct cc) ⟨us, []⟩ = pure ((["self", x] : List Str).zip us)) :
    HasExG P w K mg base (k + 1) (He.ga K n) n x := by
  unfold supGB at h2
  replace h2 := Bool.and_eq_true_iff.mp h2
  obtain ⟨a1, h2⟩ := h2
  replace h2 := Bool.and_eq_true_iff.mp h2
  obtain ⟨a2, h2⟩ := h2
  replace h2 := Bool.and_eq_true_iff.mp h2
  obtain ⟨a3, h2⟩ := h2
  replace h2 := Bool.and_eq_true_iff.mp h2
  obtain ⟨a4, h2⟩ := h2
  replace h2 := Bool.and_eq_true_iff.mp h2
  obtain ⟨a5, h2⟩ := h2
  replace h2 := Bool.and_eq_true_iff.mp h2
  obtain ⟨a6, h2⟩ := h2
  replace h2 := Bool.and_eq_true_iff.mp h2
  obtain ⟨a7, h2⟩ := h2
  replace h2 := Bool.and_eq_true_iff.mp h2
  obtain ⟨a8, h2⟩ := h2
  replace h2 := Bool.and_eq_true_iff.mp h2
  obtain ⟨a9, h2⟩ := h2
  rw [hl] at h1
  unfold seeX at h1
  split at h2
  · rename_i oc od g osl hk
    rw [hk, Option.bind_some] at h1
    dsimp only at h1
    split at h2
    · rename_i y cc cda hc hcd
      obtain ⟨b1, h2⟩ := Bool.and_eq_true_iff.mp h2
      obtain ⟨b0, h2⟩ := Bool.and_eq_true_iff.mp h2
      obtain ⟨b2, b3⟩ := Bool.and_eq_true_iff.mp h2
      have b9 := of_decide_eq_true b0
      obtain ⟨g1, g2', g3, g4, g5, g6, g7, g8, g9, g10, g11, g12, g13, g14, g15⟩ := g
      dsimp only at hc hcd b9 h1
      subst hc hcd b9
      simp only [Df.toldX, Option.some.injEq, Prod.mk.injEq, List.map_cons, List.map_nil, List.cons.injEq, and_true] at h1
      obtain ⟨r1, r2, r3, r4, r5, r6, r7, r8⟩ := h1
      subst r1 r2 r3 r4 r5 r6 r7 r8
      have cellOk : ∃ cl cld csl, K.lookup cc = some ⟨cl, cld, .cell (some (.ref (He.ga K n))), csl⟩ := by
        split at b2
        · rename_i e1 e2 C' e4 e5
          have z := of_decide_eq_true b2
          subst z
          exact ⟨_, _, _, e5⟩
        · cases b2
      have codeOk : ∃ ccl cdd vs ccs file tf, K.lookup cda = some ⟨ccl, cdd, .fields vs, ccs⟩ ∧ vs[2]? = some (.str file tf) ∧ ((P.main.file : Str) == file) = true := by
        split at b3
        · rename_i e1 e2 vs e4 e5
          split at b3
          · rename_i file tf e6
            exact ⟨_, _, vs, _, file, tf, e5, e6, b3⟩
          · cases b3
        · cases b3
      have S : SupG P K (He.ga K n) cc cda x B nid iid tl := ⟨oexGB_ok a1, He.eqO_ok a2, of_decide_eq_true a3, of_decide_eq_true a4, He.eqO_ok a5, He.eqO_ok a6, He.eqO_ok a7, cellOk, codeOk, ht⟩
      refine ⟨B, nid, iid, tl, EB, He.ma K (He.ga K n) "__init__", PySem.W.ksFn d.nm d.qu d.pa d.bo d.sc .none g9 g10 g11 g12 (.ref cda) g14 cc, ["self", x], oexGB_ok a1, He.eqO_ok a8, of_decide_eq_true a9, ?_, .all fun us hl => hbind g9 g10 g11 g12 (.ref cda) g14 cc us hl, He.glo_ok X G g2⟩
      rw [hbo] at hk ⊢
      exact fn_supG EB (k := k) hk b1 S Sc hx hx2 hdb hdc hp har hev hsw hsw2
    · cases h2
  · cases h2
end Dt
set_option Elab.async false
set_option linter.all false
set_option maxRecDepth 100000
set_option maxHeartbeats 2000000
set_option Elab.async false
set_option linter.all false
set_option maxRecDepth 100000
set_option maxHeartbeats 4000000
set_option Elab.async false
set_option linter.all false
set_option maxRecDepth 100000
set_option maxHeartbeats 4000000
set_option Elab.async false
set_option linter.all false
set_option maxRecDepth 100000
set_option maxHeartbeats 4000000
set_option Elab.async false
set_option linter.all false
set_option maxRecDepth 100000
set_option maxHeartbeats 4000000
namespace Dt
open PySem PySem.Spec PyProof.Rows L2
theorem exV_ok {P : Program} {w : World} {H : Hp} {h : Heap} {a : Addr} {cls : Value} {d : Option Addr} {oe : Obj} {vs : Array Value} (e : h.get? a = some oe) (z : Zc cls d oe) (q : oe.data = .fields vs) : ObjOk P w H h a (ExV cls d a) :=
  ⟨⟨oe, vs, e, z, q⟩, ⟨oe, e⟩, fun _ _ ⟨o, v, q, r⟩ k => ⟨o, v, k o q, r⟩⟩
/-- what makes an exception object, told as a value -/
theorem pe_exv {X : Cx} {e : Expr} {t : L2.St → Hp → XK → Prop} (mk : PMk X e t) : PE X e (fun σ H Q => t σ H fun cls d H' => ∀ a, H' a = none → Q (.ref a) (upd H' a (ExV cls d a))) := ⟨fun pins s σ H Q I hq => by
  refine wpAny_mono (mk pins s σ H _ I hq) (fun u z hu => ?_) fun _ _ x => x
  obtain ⟨ea, eo, efs, zI, H', cls, d, rfl, J, kp, hfree, hget, hzc, hdat, _, hn, hos, hag, _, q⟩ := hu
  refine ⟨.ref ea, upd H' ea (ExV cls d ea), ?_, rfl, q ea hn⟩
  obtain ⟨zh, zg, zd, zt, zo⟩ := z
  have hos : zo = zI.os := hos
  subst hos
  have ne : ∀ b o, zI.heap.get? b = some o → b ≠ ea := fun b o eb hb => by
    rw [hb, hfree] at eb
    cases eb
  have neH : ∀ b o, H' b = some o → b ≠ ea := fun b o eb => ne_of_none eb hn
  exact J.step (g' := zg) (d' := zd) (t' := zt) (ch := []) (fun _ x => nomatch x) (fun b o _ _ _ eb _ => kp b o eb) (fun b o _ _ _ eb _ => ⟨o.slots, kp b o eb⟩) (fun b o _ eb en => by rw [upd_ne (ne b o eb)]; exact en) (fun b o _ eb => ⟨o, kp b o eb⟩)
    (fun b xs eb => by rw [upd_ne (neH b _ eb)]; exact eb) (fun b o u eb => by rw [upd_ne (neH b _ eb)]; exact eb) (fun b ps eb => ⟨#[], by rw [upd_ne (neH b _ eb), eb]; simp⟩) (fun m ⟨ob, es, ep, ho, r⟩ => ⟨ob, es, ep, kp _ ob ho, r⟩) (J.hok.laidN kp hn (exV_ok hget hzc hdat)) hag⟩
section
variable {X : Cx} {Γ : Sl} {M : Mem} {Φ : VP} {e : Expr} {pos p pos' : Pos} {k : Nat} {f : Str}
theorem push_exv {K : PySem.W.Frag} {P H : Hp} {C dx a : Addr} {v : V} {d : D} (m : MOk K M P H) (hv : IsD K P v d) (hdx : H dx = none) (ha : upd H dx (.xd [(f, v)]) a = none) : ∃ P2, Ex P P2 ∧ MOk K M P2 (upd (upd H dx (.xd [(f, v)])) a (ExV (.ref C) (some dx) a)) ∧ IsD K P2 (.ref a) (.exv C [(f, d)]) := by
  obtain ⟨m2, e2⟩ := m.push (o := .xd [(f, v)]) hdx
  obtain ⟨m3, e3⟩ := m2.push (o := ExV (.ref C) (some dx) a) ha
  have ne : dx ≠ a := fun z => by
    rw [← z, upd_same] at ha
    cases ha
  have hfs : IsFs K (upd (upd P dx (.xd [(f, v)])) a (ExV (.ref C) (some dx) a)) [(f, v)] [(f, d)] := .cons (hv.mono (e2.trans e3)) .nil
  exact ⟨_, e2.trans e3, m3, .exv upd_same (by rw [upd_ne ne, upd_same]) hfs.1 hfs.2⟩
/-- C(e), an own error over ValueError, as a value -/
theorem we_mkE {C : Addr} {n : Str} (F : HasEx X.prog X.w X.K X.mg X.base k C n f) (hr : Room (k + 1) X.A) (h : WA X Γ M [e] fun ds M1 => ∃ d, ds = [d] ∧ Φ (.exv C [(f, d)]) M1) (hg : Gl X n := by rfl)
    (hdb : (n == ("__debug__" : Str)) = false := by decide) (he : starEach [e] X.env = (false, eval e X.env) :: starEach [] X.env := by rfl) : WE X Γ M (.Call (.Name n p) [e] [] pos') Φ := fun P σ H s m => by
  obtain ⟨fI, fd, ps, T, iC, tI, F1, hb, hm⟩ := F
  refine wpT_of (pe_exv (pmk_oex T iC tI F1 hr hb .nil pass0 hg hm pa_wp hdb he (by rfl))) ?_
  refine (h P σ H s m).mono fun vs H1 ⟨ds, M1, P1, ⟨d, ed, q⟩, e1, m1, i1⟩ => ?_
  subst ed
  obtain ⟨v, r, rfl, hv, hr2⟩ := i1.uncons
  obtain rfl := hr2.unnil
  refine ⟨(show 1 ≤ 1000 by decide), fun a ha => ⟨a, v, rfl, upd_same, fun dx hdx hne => ⟨rfl, dx, [(f, v)], upd_same, ?_, ?_, ?_⟩⟩⟩
  · rw [upd_ne hne, upd_same]
  · rw [upd_ne hne] at hdx
    exact hdx
  · rw [upd_ne hne] at hdx
    rw [del_upd ha hne]
    intro a2 ha2
    obtain ⟨P2, e2, m2, i2⟩ := push_exv (f := f) m1 hv hdx ha2
    exact ⟨_, M1, P2, q, e1.trans e2, m2, i2⟩
/-- .. over another built-in error -/
theorem we_mkEG {C : Addr} {n : Str} (F : HasExG X.prog X.w X.K X.mg X.base k C n f) (hr : Room (k + 1) X.A) (h : WA X Γ M [e] fun ds M1 => ∃ d, ds = [d] ∧ Φ (.exv C [(f, d)]) M1) (hg : Gl X n := by rfl)
    (hdb : (n == ("__debug__" : Str)) = false := by decide) (he : starEach [e] X.env = (false, eval e X.env) :: starEach [] X.env := by rfl) : WE X Γ M (.Call (.Name n p) [e] [] pos') Φ := fun P σ H s m => by
  obtain ⟨B, nid, iid, tl, EB, fI, fd, ps, T, iC, tI, F1, hb, hm⟩ := F
  refine wpT_of (pe_exv (pmk_oexG EB T iC tI F1 hr hb pass0 hg hm pa_wp hdb he (by rfl))) ?_
  refine (h P σ H s m).mono fun vs H1 ⟨ds, M1, P1, ⟨d, ed, q⟩, e1, m1, i1⟩ => ?_
  subst ed
  obtain ⟨v, r, rfl, hv, hr2⟩ := i1.uncons
  obtain rfl := hr2.unnil
  refine ⟨(show 1 ≤ 1000 by decide), fun a ha => ⟨a, v, rfl, upd_same, fun dx hdx hne => ⟨rfl, dx, [(f, v)], upd_same, ?_, ?_, ?_⟩⟩⟩
  · rw [upd_ne hne, upd_same]
  · rw [upd_ne hne] at hdx
    exact hdx
  · rw [upd_ne hne] at hdx
    rw [del_upd ha hne]
    intro a2 ha2
    obtain ⟨P2, e2, m2, i2⟩ := push_exv (f := f) m1 hv hdx ha2
    exact ⟨_, M1, P2, q, e1.trans e2, m2, i2⟩
/-- its attribute -/
theorem at_exv {C : Addr} {fs : List (Str × D)} {d : D} (T : XfC X.K C) (no : PySem.W.findIn X.K (.ref C) f = some none) (hl : fs.lookup f = some d) (q : Φ d M) : AtD X f (.exv C fs) M Φ := fun P H v m i pins σ s u I r => by
  cases i with
  | exn h0 => cases hl
  | exv h0 h h1 h2 =>
    cases r
    obtain ⟨w, hw1, hw2⟩ := IsFs.lookup ⟨h1, h2⟩ hl
    obtain ⟨⟨eo, efs, hget, hzc, hdat⟩, _, _⟩ := I.hok _ _ (m.ex _ _ h0)
    obtain ⟨mA, hns, hrd⟩ : ObjOk X.prog X.w H s.heap _ (.xd _) := I.hok _ _ (m.ex _ _ h)
    obtain ⟨od, ho, hl2⟩ := lookIn_ns hns
    obtain ⟨u, hu, ru⟩ := RelO.some_of (v := w) (o := mA f) (by rw [← hw1]; exact hrd f)
    have J : PySem.W.InstAt s.heap _ eo C (some od) := ⟨hget, hzc.1, by unfold PySem.W.notCls; rw [hdat] <;> rfl, by rw [hzc.2]; exact ho⟩
    exact HandSPX.exc_get I.kIn J T.ga T.gg T.exC (PySem.W.findObj_own T.hdC no rfl (by rw [hl2, hu])) (handed_of ru) ⟨w, H, I.tok _, ru, d, M, P, q, Same.refl P, m, hw2⟩
end
section
variable {X : Cx} {M : Mem} {Φ : VP} {C : Addr} {fs : List (Str × D)} {f : Str} {b : Bool}
theorem inst_exv {pins : List (Addr × Obj)} {σ : L2.St} {P H : Hp} {s : Shared} {v : V} (I : Inv X pins σ H s) (m : MOk X.K M P H) (i : IsD X.K P v (.exv C fs)) : ∃ a eo od, v = .ref a ∧ PySem.W.InstAt s.heap a eo C od := by
  generalize ed : D.exv C fs = d at i
  cases i with
  | exn h0 =>
    cases ed
    obtain ⟨⟨eo, efs, hget, hzc, hdat⟩, _, _⟩ := I.hok _ _ (m.ex _ _ h0)
    exact ⟨_, eo, none, rfl, hget, hzc.1, by unfold PySem.W.notCls; rw [hdat] <;> rfl, by rw [hzc.2]; trivial⟩
  | exv h0 h h1 h2 =>
    cases ed
    obtain ⟨⟨eo, efs, hget, hzc, hdat⟩, _, _⟩ := I.hok _ _ (m.ex _ _ h0)
    obtain ⟨mA, hns, hrd⟩ : ObjOk X.prog X.w H s.heap _ (.xd _) := I.hok _ _ (m.ex _ _ h)
    obtain ⟨od, ho, hl2⟩ := lookIn_ns hns
    exact ⟨_, eo, some od, rfl, hget, hzc.1, by unfold PySem.W.notCls; rw [hdat] <;> rfl, by rw [hzc.2]; exact ho⟩
  | _ => cases ed
def rIsV (K : PySem.W.Frag) (C : Addr) (cv : Value) (b : Bool) : List V → Hp → VK → Prop := fun xs H Q => ∃ (P : Hp) (M : Mem) (fs : List (Str × D)) (v c : V), xs = [v, c] ∧ MOk K M P H ∧ IsD K P v (.exv C fs) ∧ (∀ u, RelV c u → u = cv) ∧ Q (.bl b) H
theorem call_isV {cv : Value} (T : XcC X.K C f) (hk : PySem.W.kitOne X.K (.ref C) cv = some b) : CallR X (.builtin "isinstance") (rIsV X.K C cv b) := by
  intro pins s σ H xs us Q I r h
  obtain ⟨P, M, fs, v, c, rfl, m, i, hcv, q⟩ := h
  obtain ⟨u1, u2, rfl, r1, r2⟩ := vals2 r
  obtain ⟨a, eo, od, rfl, J⟩ := inst_exv I m i
  cases (show u1 = Value.ref a from r1)
  have ec := hcv _ r2
  subst ec
  have hcl : (PySem.W.clsIn X.K C).isSome = true := by
    obtain ⟨cd, hc, _⟩ := PySem.W.any_some T.xf.hdC
    rw [hc]
    rfl
  exact PySem.W.kia_one (PySem.W.kitx_exc hcl T.xf.ga T.xf.gg T.xf.exC T.own T.get T.tak T.mro) I.kIn J hk (fun z => nomatch z) fun tk => ⟨.bl b, H, I.kept (t' := tk) fun _ _ z => z, rfl, q⟩
theorem cd_isV {cv : Value} {dc : D} (T : XcC X.K C f) (hc : ∀ P v u, IsD X.K P v dc → RelV v u → u = cv) (hk : PySem.W.kitOne X.K (.ref C) cv = some b) (q : Φ (.bl b) M) : CaD X (.builtin "isinstance") [.exv C fs, dc] M Φ := fun P H vs m i => by
  obtain ⟨v1, r1, rfl, i1, ir⟩ := i.uncons
  obtain ⟨v2, r2, rfl, i2, ir2⟩ := ir.uncons
  obtain rfl := ir2.unnil
  exact caT_of (call_isV T hk) ⟨P, M, fs, v1, v2, rfl, m, i1, fun u ru => hc P v2 u i2 ru, _, M, P, q, Same.refl P, m, .bl⟩
def rIsV2 (K : PySem.W.Frag) (C : Addr) (w1 w2 : Value) (b : Bool) : List V → Hp → VK → Prop := fun xs H Q => ∃ (P : Hp) (M : Mem) (fs : List (Str × D)) (v c1 c2 : V) (tp : Addr), xs = [v, .ref tp] ∧ MOk K M P H ∧ IsD K P v (.exv C fs) ∧ SqT K H tp [c1, c2] ∧ ClsV c1 w1 ∧ ClsV c2 w2 ∧ Q (.bl b) H
theorem call_isV2 {w1 w2 : Value} (T : XcC X.K C f) (hk : PySem.W.kitAny X.K (.ref C) [w1, w2] = some b) : CallR X (.builtin "isinstance") (rIsV2 X.K C w1 w2 b) := by
  intro pins s σ H xs us Q I r h
  obtain ⟨P, M, fs, v, c1, c2, tp, rfl, m, i, hT, k1, k2, q⟩ := h
  obtain ⟨u1, u2, rfl, r1, r2⟩ := vals2 r
  cases (show u2 = Value.ref tp from r2)
  obtain ⟨a, eo, od, rfl, J⟩ := inst_exv I m i
  cases (show u1 = Value.ref a from r1)
  obtain ⟨its, rv, ⟨o, h1, h2, n, h3⟩, _⟩ := I.tuple hT
  have e3 := ClsV.all (.cons k1 (.cons k2 .nil)) rv
  subst e3
  obtain ⟨oc, od9, oda, osl⟩ := o
  dsimp only at h2 h3
  subst h2 h3
  have hcl : (PySem.W.clsIn X.K C).isSome = true := by
    obtain ⟨cd, hc, _⟩ := PySem.W.any_some T.xf.hdC
    rw [hc]
    rfl
  exact PySem.W.kia_tup (PySem.W.kitx_exc hcl T.xf.ga T.xf.gg T.xf.exC T.own T.get T.tak T.mro) I.kIn J h1 hk (fun z => nomatch z) fun tk => ⟨.bl b, H, I.kept (t' := tk) fun _ _ z => z, rfl, q⟩
theorem cd_isV2 {d1 d2 : D} {w1 w2 : Value} {b1 b2 : Bool} (T : XcC X.K C f) (h1 : ∀ P v, IsD X.K P v d1 → ClsV v w1) (h2 : ∀ P v, IsD X.K P v d2 → ClsV v w2) (hk1 : PySem.W.kitOne X.K (.ref C) w1 = some b1) (hk2 : PySem.W.kitOne X.K (.ref C) w2 = some b2) (q : Φ (.bl (b1 || b2)) M) : CaD X (.builtin "isinstance") [.exv C fs, .tup [d1, d2]] M Φ := fun P H vs m i => by
  obtain ⟨v1, r1, rfl, i1, ir⟩ := i.uncons
  obtain ⟨v2, r2, rfl, i2, ir2⟩ := ir.uncons
  obtain rfl := ir2.unnil
  cases i2 with
  | @tup tp xs _ hs hl hi =>
    obtain ⟨x1, y1, rfl, j1, jr⟩ := (show IsDs X.K P xs [d1, d2] from ⟨hl, hi⟩).uncons
    obtain ⟨x2, y2, rfl, j2, jr2⟩ := jr.uncons
    obtain rfl := jr2.unnil
    exact caT_of (call_isV2 T (kitAny2 hk1 hk2)) ⟨P, M, fs, v1, x1, x2, tp, rfl, m, i1, Same.tupS m.ex hs, h1 P x1 j1, h2 P x2 j2, _, M, P, q, Same.refl P, m, .bl⟩
theorem clv_adr {K : PySem.W.Frag} {B : Addr} : ∀ P v, IsD K P v (.adr B) → ClsV v (.ref B) := fun P v i => by
  cases i
  exact .own B
theorem clv_ty {K : PySem.W.Frag} {n : String} : ∀ P v, IsD K P v (.ty n) → ClsV v (.type n) := fun P v i => by
  cases i
  exact .ty n
end
end Dt
set_option Elab.async false
set_option linter.all false
set_option maxRecDepth 100000
set_option maxHeartbeats 4000000
namespace PySem
namespace SlKe
section
open Builtin Builtin.ObjectAttr
variable {nm q : Str} {C N : Addr} {bs bm bmB : List Value} {hdct : Bool} {sn : List Str} {sub : List Value} {ab : Bool} {col : Option Bool} {dd : Option Addr} {k0 k1 k2 k3 k5 : Option Value} {B newId initId : String}
section
variable {M : Model} {A : Around} {E : Value → Shared → Prop} {h : Heap} {g : Array GenState} {d : Drawn} {t : Nat} {os : OsState}
theorem new_checked (F : ExcBaseFacts B newId initId bmB) (hB : bm.contains (.type B) = true) {rest : List Value} {Q : Unit → Shared → Prop}
    (hC : h.get? C = some (excClassObj nm q C N bs bm hdct sn sub ab col dd k0 k1 k2 k3 k5 newId)) (hq : Q () ⟨h, g, d, t, os⟩) : wpAny M A (checkBuiltinCall newId ⟨.ref C :: rest, []⟩) Q E ⟨h, g, d, t, os⟩ := by
  have isB : (Value.ref C :: bm).contains (.type B) = true := by rw [List.contains_cons, hB, Bool.or_true]
  have star := F.noStar
  simp only [checkBuiltinCall, F.newKind, F.newSplit, F.newRow]
  repeat (first | refine wpAny_loadPart_at hC ?_ | (refine wpAny_isSubtype_exc hC ?_; rw [isB]) | refine wpAny_staticBase_exc hC ?_ | refine wpAny_madeBy_exc hC ?_ | simp only [bne_self_eq_false, Bool.false_eq_true, if_false] | wp_step)
  exact hq
end
variable {prog : Program} {w : World} {A : Around} {E : Value → Shared → Prop} {R : Result → Shared → Prop} {h : Heap} {g : Array GenState} {d : Drawn} {t : Nat} {os : OsState}
theorem new_made (F : ExcBaseFacts B newId initId bmB) (hB : bm.contains (.type B) = true) (hA : bm.contains (.type "AttributeError") = false) (hN : bm.contains (.type "NameError") = false) {rest : List Value}
    (hC : h.get? C = some (excClassObj nm q C N bs bm hdct sn sub ab col dd k0 k1 k2 k3 k5 newId))
    (hq : R (.ok (.ret (.ref (h.objs.size + 1)))) ⟨(h.push { cls := .type "tuple", data := .seq rest.toArray }).push { cls := .ref C, data := .fields #[.ref h.objs.size, .none, .none, .none, .bool false, .none] }, g, d, t, os⟩) (hrest : rest.length ≤ sizeLine) :
    codeAny (model prog w) A (.builtin newId ⟨.ref C :: rest, []⟩) R ⟨h, g, d, t, os⟩ := by
  have ends := F.ends
  have isB : (Value.ref C :: bm).contains (.type B) = true := by rw [List.contains_cons, hB, Bool.or_true]
  have isA : (Value.ref C :: bm).contains (.type "AttributeError") = false := by rw [List.contains_cons, hA]; rfl
  have isN : (Value.ref C :: bm).contains (.type "NameError") = false := by rw [List.contains_cons, hN]; rfl
  refine codeAny_builtinAt F.entry ?_
  unfold Builtin.«BaseException.__new__»
  refine wpAt_bind ?_
  show wpAt _ _ _ (stack >>= _) _ _ _
  refine wpAt_bind (wpAt_stack fun p below => wpAt_of_wpAny ?_)
  wp_walk
  refine wpAt_of_wpAny ?_
  rw [F.owner]
  repeat (first | with_reducible refine wpAny_madeHere_exc F.canon hC ?_ | with_reducible refine wpAny_loadPart_at hC ?_ | (with_reducible refine wpAny_isSubtype_exc hC ?_; first | rw [isB] | rw [isA] | rw [isN]) | wp_step)
  show R _ _
  rw [Heap.size_push]
  exact hq
theorem type_made (F : ExcBaseFacts B newId initId bmB) (hB : bm.contains (.type B) = true) (hA : bm.contains (.type "AttributeError") = false) (hN : bm.contains (.type "NameError") = false) {rest : List Value} {fI : Addr} {Q : Fin → Shared → Prop}
    (hC : h.get? C = some (excClassObj nm q C N bs bm hdct sn sub ab col dd k0 k1 k2 k3 k5 newId))
    (hi : W.Looks (model prog w) h (typeLookup (.ref C) "__init__") (some (.ref fI))) (hb : ∀ self, W.Looks (model prog w) h (bindSpecial (.ref fI) self) (.ref fI, [self])) (hrest : rest.length ≤ sizeLine)
    (hq : codeAny (model prog w) A (.call (.ref fI) ⟨.ref (h.objs.size + 1) :: rest, []⟩) (fun r s' => match r with | .ok (.ret v) => v = .none ∧ Q (.done (.ret (.ref (h.objs.size + 1)))) s' | .ok _ => False | .error e => E e s')
      ⟨(h.push (W.kdv_tup rest)).push (HandSPX.excO C h.objs.size), g, d, t, os⟩) : wpAny (model prog w) A (Builtin.«type.__call__» ⟨.ref C :: rest, []⟩) Q E ⟨h, g, d, t, os⟩ := by
  repeat (first | with_reducible refine wpAny_loadPart_at hC ?_ | with_reducible refine wpAny_madeBy_exc hC ?_ | wp_step)
  refine codeAny_call_builtin_code (Code.quiet_builtin _ F.quiet) (new_checked F hB hC ?_)
  refine new_made F hB hA hN hC ?_ hrest
  show wpAny _ _ _ _ _ _
  have kept : ∀ b o, h.get? b = some o → ((h.push (W.kdv_tup rest)).push (HandSPX.excO C h.objs.size)).get? b = some o := fun b o e => Heap.get?_push_of_some _ (Heap.get?_push_of_some _ e)
  have hC2 := kept _ _ hC
  have got : ((h.push (W.kdv_tup rest)).push (HandSPX.excO C h.objs.size)).get? (h.objs.size + 1) = some (HandSPX.excO C h.objs.size) := by heap_get
  have isC : (Value.ref C :: bm).contains (.ref C) = true := by simp
  have i1 := hi.keeps kept
  have b1 := (hb (.ref (h.objs.size + 1))).keeps kept
  unfold isInstance
  repeat (first | with_reducible refine wpAny_loadPart_at got ?_ | (with_reducible refine wpAny_isSubtype_exc hC2 ?_; rw [isC]) | wp_step)
  show wpAny _ _ (typeLookup (.ref C) _) _ _ _
  refine i1.at ?_
  refine wpAny_holding (wpAny_bind (b1.at ?_))
  refine wpAny_bind (wpAny_call (codeAny_mono hq fun r s' z => ?_))
  rcases r with e | (v | _ | _ | _) <;> first | exact z | exact z.elim | skip
  obtain ⟨rfl, z⟩ := z
  first
    | exact wpAny_pure (wpAny_pure z)
    | (wp_walk; exact z)
theorem own_made (F : ExcBaseFacts B newId initId bmB) (hB : bm.contains (.type B) = true) (hA : bm.contains (.type "AttributeError") = false) (hN : bm.contains (.type "NameError") = false) {rest : List Value} {fI : Addr}
    (hC : h.get? C = some (excClassObj nm q C N bs bm hdct sn sub ab col dd k0 k1 k2 k3 k5 newId))
    (hi : W.Looks (model prog w) h (typeLookup (.ref C) "__init__") (some (.ref fI))) (hb : ∀ self, W.Looks (model prog w) h (bindSpecial (.ref fI) self) (.ref fI, [self])) (hrest : rest.length ≤ sizeLine)
    (hq : codeAny (model prog w) (A.under (.builtin "type.__call__" ⟨.ref C :: rest, []⟩)) (.call (.ref fI) ⟨.ref (h.objs.size + 1) :: rest, []⟩) (W.InitBack (h.objs.size + 1) R) ⟨(h.push (W.kdv_tup rest)).push (HandSPX.excO C h.objs.size), g, d, t, os⟩) :
    codeAny (model prog w) A (.call (.ref C) ⟨rest, []⟩) R ⟨h, g, d, t, os⟩ := by
  have f1 := tc_lookup
  have f2 := tc_bind (.ref C)
  have hTy : (⟨h, g, d, t, os⟩ : Shared).TypeIs (.ref C) "type" := ⟨_, hC, rfl⟩
  refine codeAny_of_tree ?_
  show wpAny _ _ (callAny (.ref C) _) _ _ _
  repeat (any_goals (first | assumption | with_reducible refine wpAny_loadPart_at hC ?_ | wp_step))
  refine ⟨rfl, ?_⟩
  refine codeAny_call_builtin_at (Code.quiet_builtin _ (by decide +kernel)) entry_typeCall (wpAny_check_type_call_sub hC (type_made F hB hA hN hC hi hb hrest ?_))
  refine codeAny_mono hq fun r s' z => ?_
  rcases r with e | (v | _ | _ | _) <;> exact z
end
end SlKe
end PySem
namespace Dt
open PySem PySem.Spec PyProof.Rows L2
theorem ke_kind : builtinKind "KeyError.__init__" = some .slot := by kernel_rfl
theorem ke_row : Manifest.signature? "KeyError.__init__" = some ⟨.positional, "*", "KeyError", .self, [⟨"args", .varPos, false⟩]⟩ := by kernel_rfl
theorem ke_plain : plainId "KeyError.__init__" = true := by decide +kernel
theorem ke_entry : entryFor table "KeyError.__init__" = some Builtin.«BaseException.__init__» := entryFor_alias (id' := "BaseException.__init__") (by rw [fastTable_eq_tree]; kernel_rfl) (by first | rfl | decide +kernel) (by decide +kernel) (by rw [fastTable_eq_tree]; kernel_rfl)
theorem ke_kxs : PySem.W.KxsFacts "KeyError" "KeyError.__init__" := ⟨by show builtinType _ = _; rw [builtinType_eq_fast]; kernel_rfl, by first | kernel_rfl | rfl⟩
theorem ke_pas : ∀ self : Value, refuseLoop self "__setattr__" keT = pure () := fun self => by kernel_rfl
theorem exb_ke : ExB "KeyError" "LookupError.__new__" "KeyError.__init__" keT :=
  ⟨fun {M A E h g d t os nm q C N e oe bs hdct sn sub ab col dd k0 k1 k2 k3 k5 rest Q} hC he hcls hq => by
    simp only [checkBoundCall, ke_kind, ke_row]
    repeat (first | (with_reducible refine wpAny_loadPart_at he ?_; rw [hcls]) | with_reducible refine wpAny_loadPart_at hC ?_ | wp_step)
    refine wpAny_onRaise ?_
    rw [show ∀ (a b : String) (n : Nat), Bind.check ⟨.positional, "*", "KeyError", .self, [⟨"args", .varPos, false⟩]⟩ a b n (List.map (fun x => x.fst) ({ pos := Value.ref e :: rest } : Args).kw) = pure () from fun a b n => check_star_args _ _ _ _ _ _]
    exact wpAny_pure hq,
  ke_plain, ke_entry, fun hC hi hb hr hq => PySem.SlKe.own_made PySem.F.excBase_LookupError (by decide +kernel) (by decide +kernel) (by decide +kernel) hC hi hb hr hq, ke_kxs, ke_pas, by decide +kernel⟩
structure HasE0 (K : PySem.W.Frag) (mg : Str → Option Value) (C : Addr) (n : Str) : Prop where
  q : PySem.W.excIn K C [.type "ValueError", .type "Exception", .type "BaseException", .type "object"] "ValueError.__new__" = true
  kC : PySem.W.keepIn K (.ref C) = true
  exC : PySem.W.subIn K (.ref C) (.type "BaseException") = some true
  tyC : PySem.W.typeIn K (.ref C) = some (.type "type")
  m : mg n = some (.ref C)
theorem we_mkE0 {X : Cx} {Γ : Sl} {M : Mem} {Φ : VP} {C : Addr} {n : Str} {p pos' : Pos} (F : HasE0 X.K X.mg C n) (h : Φ (.exv C []) M) (hg : Gl X n := by rfl) (hdb : (n == ("__debug__" : Str)) = false := by decide) : WE X Γ M (.Call (.Name n p) [] [] pos') Φ := fun P σ H s m => by
  refine wpT_of (pe_exv (t := fun _ H Q => Q (.ref C) none H) (fun pins s σ H Q I h => ?_)) ?_
  · refine wpAny_Call_Name_kw (ld_glob I hg F.m ?_ hdb)
    refine PySem.W.callWith_K0 I.kIn F.kC ?_
    show wpAny _ _ (call (.ref C) []) _ _ _
    obtain ⟨bm, N, nm, qn, bs, hdct, sn, sub, ab, col, dd, k0, k1, k2, k3, k5, mN, hC, hN, hni, T⟩ := exc_obj I.kIn F.q
    refine wpAny_call_exc_subT PySem.F.excBase_ValueError T hC hN hni (fun h' e hm => ?_) (Nat.zero_le _)
    exact mk_of I hm (raises_own F.exC F.tyC) h (I.hok.gone hm.new)
  · intro a ha
    obtain ⟨m2, e2⟩ := m.push (o := ExV (.ref C) none a) ha
    exact ⟨.exv C [], M, _, h, e2, m2, .exn upd_same⟩
end Dt
set_option Elab.async false
set_option linter.all false
set_option maxRecDepth 100000
set_option maxHeartbeats 0
namespace Sl57
open PySem PySem.Spec PyProof.Rows L2 Dt
theorem ex_0 {K : Fg} (h : ex K = true) : (supB Pg.main.file K (He.ga K "InvalidSite") "word" "InvalidSite.__init__") = true := by
  unfold ex at h
  simp only [Bool.and_eq_true] at h
  simp only [h]
theorem ex_1 {K : Fg} (h : ex K = true) : (supB Pg.main.file K (He.ga K "InvalidRow") "word" "InvalidRow.__init__") = true := by
  unfold ex at h
  simp only [Bool.and_eq_true] at h
  simp only [h]
theorem ex_2 {K : Fg} (h : ex K = true) : (supB Pg.main.file K (He.ga K "InvalidPlan") "word" "InvalidPlan.__init__") = true := by
  unfold ex at h
  simp only [Bool.and_eq_true] at h
  simp only [h]
theorem ex_3 {K : Fg} (h : ex K = true) : (supB Pg.main.file K (He.ga K "InvalidText") "at" "InvalidText.__init__") = true := by
  unfold ex at h
  simp only [Bool.and_eq_true] at h
  simp only [h]
theorem ex_4 {K : Fg} (h : ex K = true) : (supB Pg.main.file K (He.ga K "InvalidRun") "at" "InvalidRun.__init__") = true := by
  unfold ex at h
  simp only [Bool.and_eq_true] at h
  simp only [h]
theorem ex_5 {K : Fg} (h : ex K = true) : (supB Pg.main.file K (He.ga K "InvalidSpan") "word" "InvalidSpan.__init__") = true := by
  unfold ex at h
  simp only [Bool.and_eq_true] at h
  simp only [h]
theorem ex_6 {K : Fg} (h : ex K = true) : (supB Pg.main.file K (He.ga K "InvalidCells") "at" "InvalidCells.__init__") = true := by
  unfold ex at h
  simp only [Bool.and_eq_true] at h
  simp only [h]
theorem ex_7 {K : Fg} (h : ex K = true) : (supB Pg.main.file K (He.ga K "Mismatch") "name" "Mismatch.__init__") = true := by
  unfold ex at h
  simp only [Bool.and_eq_true] at h
  simp only [h]
theorem ex_8 {K : Fg} (h : ex K = true) : (supB Pg.main.file K (He.ga K "Refused") "word" "Refused.__init__") = true := by
  unfold ex at h
  simp only [Bool.and_eq_true] at h
  simp only [h]
theorem ex_9 {K : Fg} (h : ex K = true) : (supGB "IndexError" "IndexError.__new__" "IndexError.__init__" ieT Pg.main.file K (He.ga K "NoRow") "at" "NoRow.__init__") = true := by
  unfold ex at h
  simp only [Bool.and_eq_true] at h
  simp only [h]
theorem ex_10 {K : Fg} (h : ex K = true) : (supGB "KeyError" "LookupError.__new__" "KeyError.__init__" keT Pg.main.file K (He.ga K "NoName") "name" "NoName.__init__") = true := by
  unfold ex at h
  simp only [Bool.and_eq_true] at h
  simp only [h]
theorem ex_11 {K : Fg} (h : ex K = true) : (xcB K (He.ga K "InvalidSite") "word") = true := by
  unfold ex at h
  simp only [Bool.and_eq_true] at h
  simp only [h]
theorem ex_12 {K : Fg} (h : ex K = true) : (xcB K (He.ga K "InvalidRow") "word") = true := by
  unfold ex at h
  simp only [Bool.and_eq_true] at h
  simp only [h]
theorem ex_13 {K : Fg} (h : ex K = true) : (xcB K (He.ga K "InvalidPlan") "word") = true := by
  unfold ex at h
  simp only [Bool.and_eq_true] at h
  simp only [h]
theorem ex_14 {K : Fg} (h : ex K = true) : (xcB K (He.ga K "InvalidText") "at") = true := by
  unfold ex at h
  simp only [Bool.and_eq_true] at h
  simp only [h]
theorem ex_15 {K : Fg} (h : ex K = true) : (xcB K (He.ga K "InvalidRun") "at") = true := by
  unfold ex at h
  simp only [Bool.and_eq_true] at h
  simp only [h]
theorem ex_16 {K : Fg} (h : ex K = true) : (xcB K (He.ga K "InvalidSpan") "word") = true := by
  unfold ex at h
  simp only [Bool.and_eq_true] at h
  simp only [h]
theorem ex_17 {K : Fg} (h : ex K = true) : (xcB K (He.ga K "InvalidCells") "at") = true := by
  unfold ex at h
  simp only [Bool.and_eq_true] at h
  simp only [h]
theorem ex_18 {K : Fg} (h : ex K = true) : (xcB K (He.ga K "InvalidCommand") "at") = true := by
  unfold ex at h
  simp only [Bool.and_eq_true] at h
  simp only [h]
theorem ex_19 {K : Fg} (h : ex K = true) : (xcB K (He.ga K "Mismatch") "name") = true := by
  unfold ex at h
  simp only [Bool.and_eq_true] at h
  simp only [h]
theorem ex_20 {K : Fg} (h : ex K = true) : (xcB K (He.ga K "Refused") "word") = true := by
  unfold ex at h
  simp only [Bool.and_eq_true] at h
  simp only [h]
theorem ex_21 {K : Fg} (h : ex K = true) : (xcB K (He.ga K "NoRow") "at") = true := by
  unfold ex at h
  simp only [Bool.and_eq_true] at h
  simp only [h]
theorem ex_22 {K : Fg} (h : ex K = true) : (xcB K (He.ga K "NoName") "name") = true := by
  unfold ex at h
  simp only [Bool.and_eq_true] at h
  simp only [h]
theorem ex_23 {K : Fg} (h : ex K = true) : (decide (∀ i : Fin 10, ∀ j : Fin 10, PySem.W.kitOne K (.ref (csH K i.val)) (.ref (csH K j.val)) = some (decide (i.val = j.val)))) = true := by
  unfold ex at h
  simp only [Bool.and_eq_true] at h
  simp only [h]
theorem ex_24 {K : Fg} (h : ex K = true) : (decide (∀ i : Fin 10, PySem.W.kitOne K (.ref (csH K i.val)) (.ref (He.ga K "SightError")) = some true ∧ PySem.W.kitOne K (.ref (csH K i.val)) (.type "ValueError") = some true ∧ PySem.W.kitOne K (.ref (csH K i.val)) (.type "KeyError") = some false ∧ PySem.W.kitOne K (.ref (csH K i.val)) (.type "IndexError") = some false)) = true := by
  unfold ex at h
  simp only [Bool.and_eq_true] at h
  simp only [h]
theorem ex_25 {K : Fg} (h : ex K = true) : (PySem.W.excIn K (He.ga K "InvalidCommand") [.type "ValueError", .type "Exception", .type "BaseException", .type "object"] "ValueError.__new__") = true := by
  unfold ex at h
  simp only [Bool.and_eq_true] at h
  simp only [h]
theorem ex_26 {K : Fg} (h : ex K = true) : (PySem.W.keepIn K (.ref (He.ga K "InvalidCommand"))) = true := by
  unfold ex at h
  simp only [Bool.and_eq_true] at h
  simp only [h]
theorem ex_27 {K : Fg} (h : ex K = true) : (decide (PySem.W.subIn K (.ref (He.ga K "InvalidCommand")) (.type "BaseException") = some true)) = true := by
  unfold ex at h
  simp only [Bool.and_eq_true] at h
  simp only [h]
theorem ex_28 {K : Fg} (h : ex K = true) : (decide (PySem.W.typeIn K (.ref (He.ga K "InvalidCommand")) = some (.type "type"))) = true := by
  unfold ex at h
  simp only [Bool.and_eq_true] at h
  simp only [h]
theorem ex_29 {K : Fg} (h : ex K = true) : (decide (PySem.W.kitOne K (.ref (He.ga K "NoRow")) (.type "IndexError") = some true)) = true := by
  unfold ex at h
  simp only [Bool.and_eq_true] at h
  simp only [h]
theorem ex_30 {K : Fg} (h : ex K = true) : (decide (PySem.W.kitOne K (.ref (He.ga K "NoName")) (.type "KeyError") = some true)) = true := by
  unfold ex at h
  simp only [Bool.and_eq_true] at h
  simp only [h]
theorem ex_31 {K : Fg} (h : ex K = true) : (decide (PySem.W.kitOne K (.ref (He.ga K "NoRow")) (.ref (He.ga K "SightError")) = some false)) = true := by
  unfold ex at h
  simp only [Bool.and_eq_true] at h
  simp only [h]
theorem ex_32 {K : Fg} (h : ex K = true) : (decide (PySem.W.kitOne K (.ref (He.ga K "NoRow")) (.type "KeyError") = some false)) = true := by
  unfold ex at h
  simp only [Bool.and_eq_true] at h
  simp only [h]
theorem ex_33 {K : Fg} (h : ex K = true) : (decide (PySem.W.kitOne K (.ref (He.ga K "NoName")) (.ref (He.ga K "SightError")) = some false)) = true := by
  unfold ex at h
  simp only [Bool.and_eq_true] at h
  simp only [h]
theorem ex_34 {K : Fg} (h : ex K = true) : (decide (PySem.W.kitOne K (.ref (He.ga K "NoName")) (.type "IndexError") = some false)) = true := by
  unfold ex at h
  simp only [Bool.and_eq_true] at h
  simp only [h]
theorem ob_eq (s : PySem.W.SharedT) : ob s = hk.obs s.abs := obQ_eq s
theorem hPt : (Pg.main.scope.names.lookup ("super" : Str)).isSome = false := by decide +kernel
end Sl57
set_option Elab.async false
set_option linter.all false
set_option maxRecDepth 100000
set_option maxHeartbeats 1000000
namespace Sl57
open PySem PySem.Spec PyProof.Rows L2 Dt
def top (i : Nat) : Stmt := PySem.Challenge.pw_slipsights_k01_errors_and_what_they_keep.main.body.getD i (.Pass ⟨0, 0, 0, 0⟩)
set_option hygiene false
local macro_rules | `(tactic| walk_at "op") => `(tactic| (first
  | refine od_add ?_ | refine od_sub ?_ | refine od_lt ?_ | refine od_le ?_ | refine od_gt ?_ | refine od_ge ?_ | refine od_eq ?_ | refine od_ne ?_ | refine od_is ?_ | refine od_isn ?_
  | refine od_eqS ?_ | refine od_neS ?_ | refine od_eqB ?_ | refine od_neB ?_))
local macro_rules | `(tactic| walk_at "dead") => `(tactic| (first
  | (cases hb; done)
  | (exact absurd (show false = true from hb) (by decide))
  | (exact absurd (show true = false from hb) (by decide))
  | (exact absurd hb (by decide))
  | (exfalso; simp only [decide_eq_true_eq, decide_eq_false_iff_not, Bool.not_eq_true', Bool.not_eq_false'] at hb; omega)))
local macro_rules | `(tactic| walk_at "tidy") => `(tactic| (try simp only [decide_eq_true_eq, decide_eq_false_iff_not, Bool.not_eq_true', Bool.not_eq_false'] at hb))
local macro_rules | `(tactic| walk_at "truth") => `(tactic| (first | refine tr_bl ?_ | refine tr_lst ?_ | refine tr_tup ?_ | refine tr_non ?_ | refine tr_int ?_))
local macro_rules | `(tactic| walk_at "ix") => `(tactic| (first
  | refine ix_tup (j := 0) rfl rfl ?_ | refine ix_tup (j := 1) rfl rfl ?_ | refine ix_tup (j := 2) rfl rfl ?_
  | refine ix_lst (j := 0) rfl rfl ?_ | refine ix_lst (j := 1) rfl rfl ?_ | refine ix_lst (j := 2) rfl rfl ?_
  | refine ix_own (k := 0) (j := 0) rfl rfl rfl ?_
  | refine ix_own (k := 0) (j := 1) rfl rfl rfl ?_
  | refine ix_own (k := 0) (j := 2) rfl rfl rfl ?_
  | refine ix_own (k := 1) (j := 0) rfl rfl rfl ?_
  | refine ix_own (k := 1) (j := 1) rfl rfl rfl ?_
  | refine ix_own (k := 1) (j := 2) rfl rfl rfl ?_
  | refine ix_own (k := 2) (j := 0) rfl rfl rfl ?_
  | refine ix_own (k := 2) (j := 1) rfl rfl rfl ?_
  | refine ix_own (k := 2) (j := 2) rfl rfl rfl ?_
  | refine ix_own (k := 3) (j := 0) rfl rfl rfl ?_
  | refine ix_own (k := 3) (j := 1) rfl rfl rfl ?_
  | refine ix_own (k := 3) (j := 2) rfl rfl rfl ?_
  | refine ix_own (k := 4) (j := 0) rfl rfl rfl ?_
  | refine ix_own (k := 4) (j := 1) rfl rfl rfl ?_
  | refine ix_own (k := 4) (j := 2) rfl rfl rfl ?_
  | refine ix_own (k := 5) (j := 0) rfl rfl rfl ?_
  | refine ix_own (k := 5) (j := 1) rfl rfl rfl ?_
  | refine ix_own (k := 5) (j := 2) rfl rfl rfl ?_
  | refine ix_own (k := 6) (j := 0) rfl rfl rfl ?_
  | refine ix_own (k := 6) (j := 1) rfl rfl rfl ?_
  | refine ix_own (k := 6) (j := 2) rfl rfl rfl ?_
  | refine ix_own (k := 7) (j := 0) rfl rfl rfl ?_
  | refine ix_own (k := 7) (j := 1) rfl rfl rfl ?_
  | refine ix_own (k := 7) (j := 2) rfl rfl rfl ?_
  | refine ix_own (k := 8) (j := 0) rfl rfl rfl ?_
  | refine ix_own (k := 8) (j := 1) rfl rfl rfl ?_
  | refine ix_own (k := 8) (j := 2) rfl rfl rfl ?_
  | refine ix_own (k := 9) (j := 0) rfl rfl rfl ?_
  | refine ix_own (k := 9) (j := 1) rfl rfl rfl ?_
  | refine ix_own (k := 9) (j := 2) rfl rfl rfl ?_
  | refine ix_own (k := 10) (j := 0) rfl rfl rfl ?_
  | refine ix_own (k := 10) (j := 1) rfl rfl rfl ?_
  | refine ix_own (k := 10) (j := 2) rfl rfl rfl ?_
  | refine ix_own (k := 11) (j := 0) rfl rfl rfl ?_
  | refine ix_own (k := 11) (j := 1) rfl rfl rfl ?_
  | refine ix_own (k := 11) (j := 2) rfl rfl rfl ?_
  | refine ix_own (k := 12) (j := 0) rfl rfl rfl ?_
  | refine ix_own (k := 12) (j := 1) rfl rfl rfl ?_
  | refine ix_own (k := 12) (j := 2) rfl rfl rfl ?_
  | refine ix_own (k := 13) (j := 0) rfl rfl rfl ?_
  | refine ix_own (k := 13) (j := 1) rfl rfl rfl ?_
  | refine ix_own (k := 13) (j := 2) rfl rfl rfl ?_))
local macro_rules | `(tactic| walk_at "seti") => `(tactic| (first
  | refine ⟨0, 0, _, _, _, rfl, rfl, rfl, rfl, of_decide_eq_true rfl, ?_⟩
  | refine ⟨0, 1, _, _, _, rfl, rfl, rfl, rfl, of_decide_eq_true rfl, ?_⟩
  | refine ⟨0, 2, _, _, _, rfl, rfl, rfl, rfl, of_decide_eq_true rfl, ?_⟩
  | refine ⟨1, 0, _, _, _, rfl, rfl, rfl, rfl, of_decide_eq_true rfl, ?_⟩
  | refine ⟨1, 1, _, _, _, rfl, rfl, rfl, rfl, of_decide_eq_true rfl, ?_⟩
  | refine ⟨1, 2, _, _, _, rfl, rfl, rfl, rfl, of_decide_eq_true rfl, ?_⟩
  | refine ⟨2, 0, _, _, _, rfl, rfl, rfl, rfl, of_decide_eq_true rfl, ?_⟩
  | refine ⟨2, 1, _, _, _, rfl, rfl, rfl, rfl, of_decide_eq_true rfl, ?_⟩
  | refine ⟨2, 2, _, _, _, rfl, rfl, rfl, rfl, of_decide_eq_true rfl, ?_⟩
  | refine ⟨3, 0, _, _, _, rfl, rfl, rfl, rfl, of_decide_eq_true rfl, ?_⟩
  | refine ⟨3, 1, _, _, _, rfl, rfl, rfl, rfl, of_decide_eq_true rfl, ?_⟩
  | refine ⟨3, 2, _, _, _, rfl, rfl, rfl, rfl, of_decide_eq_true rfl, ?_⟩
  | refine ⟨4, 0, _, _, _, rfl, rfl, rfl, rfl, of_decide_eq_true rfl, ?_⟩
  | refine ⟨4, 1, _, _, _, rfl, rfl, rfl, rfl, of_decide_eq_true rfl, ?_⟩
  | refine ⟨4, 2, _, _, _, rfl, rfl, rfl, rfl, of_decide_eq_true rfl, ?_⟩
  | refine ⟨5, 0, _, _, _, rfl, rfl, rfl, rfl, of_decide_eq_true rfl, ?_⟩
  | refine ⟨5, 1, _, _, _, rfl, rfl, rfl, rfl, of_decide_eq_true rfl, ?_⟩
  | refine ⟨5, 2, _, _, _, rfl, rfl, rfl, rfl, of_decide_eq_true rfl, ?_⟩
  | refine ⟨6, 0, _, _, _, rfl, rfl, rfl, rfl, of_decide_eq_true rfl, ?_⟩
  | refine ⟨6, 1, _, _, _, rfl, rfl, rfl, rfl, of_decide_eq_true rfl, ?_⟩
  | refine ⟨6, 2, _, _, _, rfl, rfl, rfl, rfl, of_decide_eq_true rfl, ?_⟩
  | refine ⟨7, 0, _, _, _, rfl, rfl, rfl, rfl, of_decide_eq_true rfl, ?_⟩
  | refine ⟨7, 1, _, _, _, rfl, rfl, rfl, rfl, of_decide_eq_true rfl, ?_⟩
  | refine ⟨7, 2, _, _, _, rfl, rfl, rfl, rfl, of_decide_eq_true rfl, ?_⟩
  | refine ⟨8, 0, _, _, _, rfl, rfl, rfl, rfl, of_decide_eq_true rfl, ?_⟩
  | refine ⟨8, 1, _, _, _, rfl, rfl, rfl, rfl, of_decide_eq_true rfl, ?_⟩
  | refine ⟨8, 2, _, _, _, rfl, rfl, rfl, rfl, of_decide_eq_true rfl, ?_⟩
  | refine ⟨9, 0, _, _, _, rfl, rfl, rfl, rfl, of_decide_eq_true rfl, ?_⟩
  | refine ⟨9, 1, _, _, _, rfl, rfl, rfl, rfl, of_decide_eq_true rfl, ?_⟩
  | refine ⟨9, 2, _, _, _, rfl, rfl, rfl, rfl, of_decide_eq_true rfl, ?_⟩
  | refine ⟨10, 0, _, _, _, rfl, rfl, rfl, rfl, of_decide_eq_true rfl, ?_⟩
  | refine ⟨10, 1, _, _, _, rfl, rfl, rfl, rfl, of_decide_eq_true rfl, ?_⟩
  | refine ⟨10, 2, _, _, _, rfl, rfl, rfl, rfl, of_decide_eq_true rfl, ?_⟩
  | refine ⟨11, 0, _, _, _, rfl, rfl, rfl, rfl, of_decide_eq_true rfl, ?_⟩
  | refine ⟨11, 1, _, _, _, rfl, rfl, rfl, rfl, of_decide_eq_true rfl, ?_⟩
  | refine ⟨11, 2, _, _, _, rfl, rfl, rfl, rfl, of_decide_eq_true rfl, ?_⟩
  | refine ⟨12, 0, _, _, _, rfl, rfl, rfl, rfl, of_decide_eq_true rfl, ?_⟩
  | refine ⟨12, 1, _, _, _, rfl, rfl, rfl, rfl, of_decide_eq_true rfl, ?_⟩
  | refine ⟨12, 2, _, _, _, rfl, rfl, rfl, rfl, of_decide_eq_true rfl, ?_⟩
  | refine ⟨13, 0, _, _, _, rfl, rfl, rfl, rfl, of_decide_eq_true rfl, ?_⟩
  | refine ⟨13, 1, _, _, _, rfl, rfl, rfl, rfl, of_decide_eq_true rfl, ?_⟩
  | refine ⟨13, 2, _, _, _, rfl, rfl, rfl, rfl, of_decide_eq_true rfl, ?_⟩))
local macro_rules | `(tactic| walk_at "lst") => `(tactic| (first
  | refine cd_list (.inr (.inr ⟨0, _, rfl, rfl⟩)) ?_
  | refine cd_list (.inr (.inr ⟨1, _, rfl, rfl⟩)) ?_
  | refine cd_list (.inr (.inr ⟨2, _, rfl, rfl⟩)) ?_
  | refine cd_list (.inr (.inr ⟨3, _, rfl, rfl⟩)) ?_
  | refine cd_list (.inr (.inr ⟨4, _, rfl, rfl⟩)) ?_
  | refine cd_list (.inr (.inr ⟨5, _, rfl, rfl⟩)) ?_
  | refine cd_list (.inr (.inr ⟨6, _, rfl, rfl⟩)) ?_
  | refine cd_list (.inr (.inr ⟨7, _, rfl, rfl⟩)) ?_
  | refine cd_list (.inr (.inr ⟨8, _, rfl, rfl⟩)) ?_
  | refine cd_list (.inr (.inr ⟨9, _, rfl, rfl⟩)) ?_
  | refine cd_list (.inr (.inr ⟨10, _, rfl, rfl⟩)) ?_
  | refine cd_list (.inr (.inr ⟨11, _, rfl, rfl⟩)) ?_
  | refine cd_list (.inr (.inr ⟨12, _, rfl, rfl⟩)) ?_
  | refine cd_list (.inr (.inr ⟨13, _, rfl, rfl⟩)) ?_))
local macro_rules | `(tactic| walk_at "isi") => `(tactic| (first | refine cd_isi (k := true) rfl (by decide +kernel) ?_ | refine cd_isi (k := false) rfl (by decide +kernel) ?_))
local macro_rules | `(tactic| walk_at "size") => `(tactic| (first
  | exact (show 0 ≤ sizeLine by decide) | exact (show 1 ≤ sizeLine by decide) | exact (show 2 ≤ sizeLine by decide) | exact (show 3 ≤ sizeLine by decide) | exact (show 4 ≤ sizeLine by decide) | exact (show 5 ≤ sizeLine by decide) | exact (show 6 ≤ sizeLine by decide) | exact (of_decide_eq_true rfl) | exact (Nat.le_of_ble_eq_true rfl)))
section
variable {P : Program} {w : World} {K : PySem.W.Frag} {mg : Str → Option Value} {base : Heap}
theorem mulB {i j : Int} (hi : -(2 ^ 204) < i ∧ i < 2 ^ 204) (hj : -(2 ^ 204) < j ∧ j < 2 ^ 204) : CMulW i j := wide_mul (a := 204) (b := 204) (by omega) (by omega) (by decide) (by decide) (by decide)
def S_deal : DS := fun ds M Φ => ∃ ns : List Int, ds = [.lst (ns.map .int)] ∧ ns.length ≤ 63 ∧ ∀ l l2 gs m, Good gs m → Φ (.adr l) ((l, .lst [.adr l2, .int m]) :: (l2, .lst (gs.map D.int)) :: M)
def S_draw : DS := fun ds M Φ => ∃ (l l2 : Addr) (k : Nat) (many : Int), ds = [.adr l, .int many] ∧ DealAt M k l l2 ∧ 0 < many ∧ many < 2 ^ 200 ∧ ∀ r gs m, 0 ≤ r → r < many → Good gs m → Φ (.int r) (put2 M k l l2 gs m)
def S_pick : DS := fun ds M Φ => ∃ (l l2 : Addr) (k : Nat) (xs : List D), (ds = [.adr l, .lst xs] ∨ ds = [.adr l, .tup xs]) ∧ DealAt M k l l2 ∧ 0 < xs.length ∧ xs.length < 2 ^ 40 ∧ ∀ x gs m, x ∈ xs → Good gs m → Φ x (put2 M k l l2 gs m)
def absI (i : Int) : Int := if i < 0 then -i else i
theorem absI_nn (i : Int) : 0 ≤ absI i := by
  unfold absI
  split <;> omega
theorem deal_good {ns : List Int} {m : Int} (hl : ns.length ≤ 63) (h0 : 0 ≤ m) (h1 : m < 2 ^ 31) (p : Int → Bool) (lo hi : Option Int) : Good (((cutL ns lo hi).map absI).filter p).reverse m := by
  refine ⟨fun g hg => ?_, ?_, h0, h1⟩
  · obtain ⟨x, _, e⟩ := List.mem_map.mp (List.mem_filter.mp (List.mem_reverse.mp hg)).1
    rw [← e]
    exact absI_nn x
  · rw [List.length_reverse]
    have a := List.length_filter_le p ((cutL ns lo hi).map absI)
    have b := cut_len ns lo hi
    rw [List.length_map] at a
    omega
theorem getIs {is : List Int} {i : Nat} {y : D} (h : (is.map D.int)[i]? = some y) : ∃ c, is[i]? = some c ∧ y = .int c := getMap h
theorem pick_in {xs : List D} {r : Int} (h0 : 0 ≤ r) (h1 : r < (xs.length : Int)) : ∃ (j : Nat) (x : D), r = (j : Int) ∧ xs[j]? = some x ∧ x ∈ xs := by
  have hj : r.toNat < xs.length := by omega
  exact ⟨r.toNat, xs[r.toNat], by omega, List.getElem?_eq_getElem hj, List.getElem_mem hj⟩
abbrev s_Ldeal : Stmt := top 15
theorem sc_Ldeal : FnScope ["_law_script", "_law_cells", "_law_mixed", "_law_cell"] ["_law_script"] (defScope s_Ldeal) := ⟨rfl, rfl, rfl, by decide +kernel, rfl, by decide +kernel, by decide +kernel⟩
theorem ok_Ldeal {f : Addr} {fd : FuncData} (F : FunD K "_law_deal" "_law_deal" (defArgs s_Ldeal) (defBody s_Ldeal) (defScope s_Ldeal) [] [] f fd) (B : Bf mg) : FnOk P w K mg base CX0 1 f fd ["_law_script"] (spOf K S_deal) := by
  refine fn_data (k := 0) F sc_Ldeal (fun ds M Φ h => ?_) (fun cdv A outer s H E ds M Φ hr h => ?_)
  · obtain ⟨ns, rfl, hlen, q⟩ := h
    all_goals rfl
  · obtain ⟨ns, rfl, hlen, q⟩ := h
    refine ws_par 1 2 sc_Ldeal.nd ?_
    refine wa_cons ?_
    refine lcMapL (own := [("_law_cell", 3)]) (j := 3) sc_Ldeal.nd ?_ (blkOk_by (N := ["_law_script", "_law_cells", "_law_mixed", "_law_cell"]) (sc := defScope s_Ldeal) (by decide +kernel)) (fun _ _ _ _ _ => pg_name (i := 3) sc_Ldeal.nd rfl (Or.inl rfl))
    refine we_frz ?_
    refine we_slO ?_
    refine wv 0 rfl ?_
    refine wo_none (wo_some ?_)
    refine we_int ?_
    refine ⟨_, rfl, _, .inl rfl, fun l9 => ⟨l9, _, _, rfl, rfl, ?_⟩⟩
    rw [cut_map]
    refine ⟨_, gI absI, rfl, (by rw [List.length_map]; exact Nat.lt_of_le_of_lt (cut_len _ _ _) (Nat.lt_of_le_of_lt hlen (by decide))), fun i y hy l out s H C cl fp => ?_, ?_⟩
    · obtain ⟨c, hc, rfl⟩ := getIs hy
      refine wcB B.abs boot_abs ?_
      refine wa_cons ?_
      refine wv 3 rfl ?_
      refine wa_nil ?_
      refine cd_abs ?_
      exact ⟨rfl, rfl⟩
    rw [map_gI]
    refine wa_cons ?_
    refine we_int ?_
    refine wa_nil ?_
    refine ⟨_, _, rfl, ?_⟩
    refine ws_cons (w1_forL (by passes_own) rfl ?_)
    refine wv 1 rfl ?_
    refine ⟨fun _ Γ M2 => ∃ mm : Int, 0 ≤ mm ∧ mm < 2 ^ 31 ∧ Γ = [some (.lst (ns.map .int)), some (.lst (((cutL ns none (some 60)).map absI).map D.int)), some (.int mm), none] ∧ M2 = M, _, rfl, ⟨67867967, by decide, by decide, rfl, rfl⟩, ?_, ?_⟩
    · rintro i y Γ' M' hy ⟨mm, hm1, hm2, rfl, hM⟩
      subst hM
      obtain ⟨c, hc, rfl⟩ := getIs hy
      refine gd_name 3 sc_Ldeal.nd ?_
      refine ws_set 2 sc_Ldeal.nd ?_
      refine we_bin ?_
      refine wcT B.int boot_int ?_
      refine wa_cons ?_
      refine we_bin ?_
      refine we_bin ?_
      refine wv 2 rfl ?_
      refine we_int ?_
      refine od_mulW (mulB ⟨by omega, by omega⟩ ⟨by omega, by omega⟩) ?_
      refine we_bin ?_
      refine wcT B.int boot_int ?_
      refine wa_cons ?_
      refine wv 3 rfl ?_
      refine wa_nil ?_
      refine cd_int ?_
      refine we_int ?_
      refine od_mod (by decide) ?_
      walk_at "op"
      refine wa_nil ?_
      refine cd_int ?_
      refine we_int ?_
      refine od_mod (by decide) ?_
      refine ws_wk (Γ' := [some (.lst (ns.map .int)), some (.lst (((cutL ns none (some 60)).map absI).map D.int)), some (.int ((mm * 16807 + c % 2147483629) % 2147483647)), none]) (M' := M') (by repeat (first | exact wkE | refine wkS ?_ | refine wkN ?_)) (.refl _) ?_
      exact ws_nil ⟨_, by omega, by omega, rfl, rfl⟩
    · rintro Γ' M' ⟨mm, hm1, hm2, rfl, hM⟩
      subst hM
      refine ws_ret ?_
      refine we_lstO ?_
      refine wa_cons ?_
      refine we_revO ?_
      refine lcMapLF (own := [("_law_cell", 3)]) (j := 3) sc_Ldeal.nd ?_ (blkOk_by (N := ["_law_script", "_law_cells", "_law_mixed", "_law_cell"]) (sc := defScope s_Ldeal) (by decide +kernel)) (fun _ _ _ _ _ => pg_name (i := 3) sc_Ldeal.nd rfl (Or.inl rfl))
      refine wv 1 rfl ?_
      refine ⟨_, pI fun i => decide (10 ^ 18 ≤ i), fun y => y, rfl, (by rw [List.length_map, List.length_map]; exact Nat.lt_of_le_of_lt (cut_len _ _ _) (Nat.lt_of_le_of_lt hlen (by decide))), fun i y hy l out s H C cl fp => ?_, fun i y hy _ l out s H C cl fp => ?_, ?_⟩
      · obtain ⟨c, hc, rfl⟩ := getIs hy
        refine wt_cmp ?_ (nomark _)
        refine wv 3 rfl ?_
        refine we_bin ?_
        refine we_int ?_
        refine we_int ?_
        refine od_powV (v := 10 ^ 18) ⟨by decide, by decide, by decide⟩ rfl ?_
        walk_at "op"
        refine ⟨_, rfl, ?_⟩
        exact ⟨rfl, rfl⟩
      · skip
        refine wv 3 rfl ?_
        exact ⟨rfl, rfl⟩
      rw [filt_pI]
      refine ⟨_, .inl rfl, fun l_2 => ?_⟩
      rw [← List.map_reverse]
      refine wa_cons ?_
      refine wv 2 rfl ?_
      refine wa_nil ?_
      refine ⟨(by walk_at "size"), fun l_1 => ?_⟩
      exact q _ _ _ _ (deal_good hlen hm1 hm2 _ _ _)
abbrev s_Ldraw : Stmt := top 16
theorem sc_Ldraw : FnScope ["_law_deal_here", "_law_many", "_law_left"] ["_law_deal_here", "_law_many"] (defScope s_Ldraw) := ⟨rfl, rfl, rfl, by decide +kernel, rfl, by decide +kernel, by decide +kernel⟩
theorem ok_Ldraw {f : Addr} {fd : FuncData} (F : FunD K "_law_draw" "_law_draw" (defArgs s_Ldraw) (defBody s_Ldraw) (defScope s_Ldraw) [] [] f fd) (B : Bf mg) : FnOk P w K mg base CX0 1 f fd ["_law_deal_here", "_law_many"] (spOf K S_draw) := by
  refine fn_data (k := 0) F sc_Ldraw (fun ds M Φ h => ?_) (fun cdv A outer s H E ds M Φ hr h => ?_)
  · obtain ⟨l, l2, k, many, rfl, hD, hm1, hm2, q⟩ := h
    all_goals rfl
  · obtain ⟨l, l2, k, many, rfl, hD, hm1, hm2, q⟩ := h
    obtain ⟨gs, m, hg, h0, h1⟩ := hD
    have hkl : k + 1 < M.length := (List.getElem?_eq_some_iff.mp h1).1
    have hgm := hg.2.2
    refine ws_mid (fun Γ2 M2 => Γ2 = [some (.adr l), some (.int many), none] ∧ ∃ gs, Good gs m ∧ M2 = put2 M k l l2 gs m) ?_ ?_
    · refine w1_while (fun n Γ2 M2 => ∃ gs, n = gs.length ∧ Good gs m ∧ Γ2 = [some (.adr l), some (.int many), none] ∧ M2 = put2 M k l l2 gs m) (by passes_own) gs.length ⟨gs, rfl, hg, rfl, (put2_self h0 h1).symm⟩ ?_
      rintro n Γ' M' ⟨gs, rfl, hg, rfl, rfl⟩
      rcases snoc_cases gs with rfl | ⟨ys, y, rfl⟩
      · skip
        refine wt_bool ?_
        refine ww_and ?_
        refine wt_cmp ?_ (nomark _)
        refine we_ix ?_ (fun _ _ => rfl)
        refine wv 0 rfl ?_
        refine we_int ?_
        refine ix_own (k := k) (j := 0) (get2_0 hkl) rfl rfl ?_
        refine we_lst ?_
        refine wa_nil ?_
        refine ⟨(by walk_at "size"), ?_⟩
        refine od_neI0 hr.units (get2_1 hkl) ?_
        rw [decide_eq_true (rfl)]
        refine ⟨_, rfl, ?_⟩
        refine ⟨fun hb => ?_, fun hb => ?_⟩
        · walk_at "dead"
        · walk_at "tidy"
          exact ⟨fun hb => (by walk_at "dead"), fun hb => ⟨rfl, [], hg, rfl⟩⟩
      · have hgp := hg.pop
        rcases Decidable.em (y = 0) with hy | hy
        · skip
          refine wt_bool ?_
          refine ww_and ?_
          refine wt_cmp ?_ (nomark _)
          refine we_ix ?_ (fun _ _ => rfl)
          refine wv 0 rfl ?_
          refine we_int ?_
          refine ix_own (k := k) (j := 0) (get2_0 hkl) rfl rfl ?_
          refine we_lst ?_
          refine wa_nil ?_
          refine ⟨(by walk_at "size"), ?_⟩
          refine od_neI0 hr.units (get2_1 hkl) ?_
          rw [decide_eq_false (by simp)]
          refine ⟨_, rfl, ?_⟩
          refine ⟨fun hb => ?_, fun hb => ?_⟩
          · walk_at "tidy"
            refine ww_and1 ?_
            refine wt_cmp ?_ (nomark _)
            refine we_ix ?_ (fun _ _ => rfl)
            refine we_ix ?_ (fun _ _ => rfl)
            refine wv 0 rfl ?_
            refine we_int ?_
            refine ix_own (k := k) (j := 0) (get2_0 hkl) rfl rfl ?_
            refine we_un ?_
            refine we_int ?_
            refine ud_neg ?_
            refine ix_ownI (k := k + 1) (get2_1 hkl) last_ints ?_
            refine we_int ?_
            refine od_eq ?_
            rw [decide_eq_true hy]
            refine ⟨_, rfl, ?_⟩
            refine ⟨fun hb => ?_, fun hb => (by walk_at "dead")⟩
            refine ws_expr ?_
            refine we_pop ?_
            refine we_ix ?_ (fun _ _ => rfl)
            refine wv 0 rfl ?_
            refine we_int ?_
            refine ix_own (k := k) (j := 0) (get2_0 hkl) rfl rfl ?_
            refine ⟨_, k + 1, _, _, rfl, get2_1 hkl, last_ints2, ?_⟩
            rw [put2_pop]
            refine ws_nil ?_
            exact ⟨ys.length, by rw [List.length_append]; exact Nat.lt_succ_self _, ys, rfl, hgp.1, rfl, rfl⟩
          · walk_at "dead"
        · skip
          refine wt_bool ?_
          refine ww_and ?_
          refine wt_cmp ?_ (nomark _)
          refine we_ix ?_ (fun _ _ => rfl)
          refine wv 0 rfl ?_
          refine we_int ?_
          refine ix_own (k := k) (j := 0) (get2_0 hkl) rfl rfl ?_
          refine we_lst ?_
          refine wa_nil ?_
          refine ⟨(by walk_at "size"), ?_⟩
          refine od_neI0 hr.units (get2_1 hkl) ?_
          rw [decide_eq_false (by simp)]
          refine ⟨_, rfl, ?_⟩
          refine ⟨fun hb => ?_, fun hb => ?_⟩
          · walk_at "tidy"
            refine ww_and1 ?_
            refine wt_cmp ?_ (nomark _)
            refine we_ix ?_ (fun _ _ => rfl)
            refine we_ix ?_ (fun _ _ => rfl)
            refine wv 0 rfl ?_
            refine we_int ?_
            refine ix_own (k := k) (j := 0) (get2_0 hkl) rfl rfl ?_
            refine we_un ?_
            refine we_int ?_
            refine ud_neg ?_
            refine ix_ownI (k := k + 1) (get2_1 hkl) last_ints ?_
            refine we_int ?_
            refine od_eq ?_
            rw [decide_eq_false hy]
            refine ⟨_, rfl, ?_⟩
            exact ⟨fun hb => (by walk_at "dead"), fun hb => ⟨rfl, _, hg, rfl⟩⟩
          · walk_at "dead"
    rintro Γ' M' ⟨rfl, gs, hg, rfl⟩
    rcases snoc_cases gs with rfl | ⟨ys, y, rfl⟩
    · skip
      refine ws_if ?_
      refine wt_cmp ?_ (nomark _)
      refine we_ix ?_ (fun _ _ => rfl)
      refine wv 0 rfl ?_
      refine we_int ?_
      refine ix_own (k := k) (j := 0) (get2_0 hkl) rfl rfl ?_
      refine we_lst ?_
      refine wa_nil ?_
      refine ⟨(by walk_at "size"), ?_⟩
      refine od_neI0 hr.units (get2_1 hkl) ?_
      rw [decide_eq_true (rfl)]
      refine ⟨_, rfl, ?_⟩
      refine ⟨fun hb => ?_, fun hb => ?_⟩
      · walk_at "dead"
      · walk_at "tidy"
        refine ws_nil ?_
        refine ws_cons (w1_setI ?_ (by exact pg_sub pe_wp pe_wp set_list) rfl rfl rfl)
        refine we_bin ?_
        refine wcT B.int boot_int ?_
        refine wa_cons ?_
        refine we_bin ?_
        refine we_bin ?_
        refine we_ix ?_ (fun _ _ => rfl)
        refine wv 0 rfl ?_
        refine we_int ?_
        refine ix_own (k := k) (j := 1) (get2_0 hkl) rfl rfl ?_
        refine we_int ?_
        refine od_mulW (mulB ⟨by omega, by omega⟩ ⟨by omega, by omega⟩) ?_
        refine we_int ?_
        walk_at "op"
        refine wa_nil ?_
        refine cd_int ?_
        refine we_int ?_
        first
        | refine od_mod (by omega) ?_
        refine wv 0 rfl ?_
        refine we_int ?_
        refine ⟨k, 1, _, _, _, rfl, rfl, get2_0 hkl, rfl, of_decide_eq_true rfl, ?_⟩
        refine ws_wk (Γ' := [some (.adr l), some (.int many), none]) (M' := put2 M k l l2 [] ((m * 48271 + 11) % 2147483647)) (by repeat (first | exact wkE | refine wkS ?_ | refine wkN ?_)) (by rw [← put2_set1 (m := m)]; exact List.Sublist.refl _) ?_
        refine ws_ret ?_
        refine we_bin ?_
        refine wcT B.int boot_int ?_
        refine wa_cons ?_
        refine we_bin ?_
        refine we_ix ?_ (fun _ _ => rfl)
        refine wv 0 rfl ?_
        refine we_int ?_
        refine ix_own (k := k) (j := 1) (get2_0 hkl) rfl rfl ?_
        refine we_int ?_
        refine od_fdiv ⟨by decide, by decide⟩ ?_
        refine wa_nil ?_
        refine cd_int ?_
        refine wv 1 rfl ?_
        first
        | refine od_mod (by omega) ?_
        first
        | exact q _ _ _ (Int.emod_nonneg _ (by omega)) (Int.emod_lt_of_pos _ hm1) (hg.push (Int.ediv_nonneg hgp.2 (by omega)))
        | exact q _ _ _ (Int.emod_nonneg _ (by omega)) (Int.emod_lt_of_pos _ hm1) ⟨hg.1, hg.2.1, by omega, by omega⟩
    · skip
      have hgp := hg.pop
      refine ws_if ?_
      refine wt_cmp ?_ (nomark _)
      refine we_ix ?_ (fun _ _ => rfl)
      refine wv 0 rfl ?_
      refine we_int ?_
      refine ix_own (k := k) (j := 0) (get2_0 hkl) rfl rfl ?_
      refine we_lst ?_
      refine wa_nil ?_
      refine ⟨(by walk_at "size"), ?_⟩
      refine od_neI0 hr.units (get2_1 hkl) ?_
      rw [decide_eq_false (by simp)]
      refine ⟨_, rfl, ?_⟩
      refine ⟨fun hb => ?_, fun hb => ?_⟩
      · walk_at "tidy"
        refine ws_set 2 sc_Ldraw.nd ?_
        refine we_pop ?_
        refine we_ix ?_ (fun _ _ => rfl)
        refine wv 0 rfl ?_
        refine we_int ?_
        refine ix_own (k := k) (j := 0) (get2_0 hkl) rfl rfl ?_
        refine ⟨_, k + 1, _, _, rfl, get2_1 hkl, last_ints2, ?_⟩
        rw [put2_pop]
        refine ws_expr ?_
        refine we_append ?_
        refine we_ix ?_ (fun _ _ => rfl)
        refine wv 0 rfl ?_
        refine we_int ?_
        refine ix_own (k := k) (j := 0) (get2_0 hkl) rfl rfl ?_
        refine ⟨_, k + 1, _, rfl, get2_1 hkl, ?_⟩
        refine we_bin ?_
        refine wv 2 rfl ?_
        refine wv 1 rfl ?_
        refine od_fdivW (wide_div (b := 200) hm1 (by omega) (by decide) (by decide)) ?_
        refine ⟨k + 1, _, get2_1 hkl, (by rw [List.length_map]; exact Nat.lt_of_le_of_lt hgp.1.2.1 (by decide)), ?_⟩
        rw [put2_push]
        refine ws_ret ?_
        refine we_bin ?_
        refine wcT B.int boot_int ?_
        refine wa_cons ?_
        refine wv 2 rfl ?_
        refine wa_nil ?_
        refine cd_int ?_
        refine wv 1 rfl ?_
        first
        | refine od_mod (by omega) ?_
        first
        | exact q _ _ _ (Int.emod_nonneg _ (by omega)) (Int.emod_lt_of_pos _ hm1) (hg.push (Int.ediv_nonneg hgp.2 (by omega)))
        | exact q _ _ _ (Int.emod_nonneg _ (by omega)) (Int.emod_lt_of_pos _ hm1) ⟨hg.1, hg.2.1, by omega, by omega⟩
      · walk_at "dead"
abbrev s_Lpick : Stmt := top 17
theorem sc_Lpick : FnScope ["_law_deal_here", "_law_some"] ["_law_deal_here", "_law_some"] (defScope s_Lpick) := ⟨rfl, rfl, rfl, by decide +kernel, rfl, by decide +kernel, by decide +kernel⟩
theorem ok_Lpick {f : Addr} {fd : FuncData} (F : FunD K "_law_pick" "_law_pick" (defArgs s_Lpick) (defBody s_Lpick) (defScope s_Lpick) [] [] f fd) (B : Bf mg) (hDraw : HasFn P w K mg base 1 "_law_draw" S_draw) : FnOk P w K mg base CX0 2 f fd ["_law_deal_here", "_law_some"] (spOf K S_pick) := by
  refine fn_data (k := 1) F sc_Lpick (fun ds M Φ h => ?_) (fun cdv A outer s H E ds M Φ hr h => ?_)
  · obtain ⟨l, l2, k, xs, rfl | rfl, hD, hx1, hx2, q⟩ := h
    all_goals rfl
  · obtain ⟨l, l2, k, xs, hd, hD, hx1, hx2, q⟩ := h
    rcases hd with rfl | rfl
    · skip
      refine ws_ret ?_
      refine we_ix ?_ (fun _ _ => rfl)
      refine wv 1 rfl ?_
      refine wcf hDraw (hr.mono (by decide)) ?_
      refine wa_cons ?_
      refine wv 0 rfl ?_
      refine wa_cons ?_
      refine wcB B.len boot_len ?_
      refine wa_cons ?_
      refine wv 1 rfl ?_
      refine wa_nil ?_
      first
      | refine cd_len_lst ?_
      | refine cd_len_tup ?_
      refine wa_nil ?_
      refine ⟨l, l2, k, _, rfl, hD, by omega, by omega, fun r gs m h0 h1 hg => ?_⟩
      obtain ⟨j, x, ej, hj, hx⟩ := pick_in h0 h1
      first
      | refine ix_lst (j := j) ej hj ?_
      | refine ix_tup (j := j) ej hj ?_
      exact q _ _ _ hx hg
    · skip
      refine ws_ret ?_
      refine we_ix ?_ (fun _ _ => rfl)
      refine wv 1 rfl ?_
      refine wcf hDraw (hr.mono (by decide)) ?_
      refine wa_cons ?_
      refine wv 0 rfl ?_
      refine wa_cons ?_
      refine wcB B.len boot_len ?_
      refine wa_cons ?_
      refine wv 1 rfl ?_
      refine wa_nil ?_
      first
      | refine cd_len_lst ?_
      | refine cd_len_tup ?_
      refine wa_nil ?_
      refine ⟨l, l2, k, _, rfl, hD, by omega, by omega, fun r gs m h0 h1 hg => ?_⟩
      obtain ⟨j, x, ej, hj, hx⟩ := pick_in h0 h1
      first
      | refine ix_lst (j := j) ej hj ?_
      | refine ix_tup (j := j) ej hj ?_
      exact q _ _ _ hx hg
def flatD : D → Bool
  | .non => true
  | .bl _ => true
  | .int i => decide (i.natAbs < 10 ^ 100)
  | .str x => decide (x.cps.size ≤ 10) && x.cps.toList.all fun c => decide (c < 16 ^ 8)
  | _ => false
def AnyD : Nat → D → Prop
  | 0, d => flatD d = true
  | n + 1, d => flatD d = true ∨ ∃ xs : List D, (d = .tup xs ∨ d = .lst xs) ∧ xs.length ≤ 3 ∧ ∀ x, x ∈ xs → AnyD n x
theorem any_flat {n : Nat} {d : D} (h : flatD d = true) : AnyD n d := by
  cases n with
  | zero => exact h
  | succ n => exact .inl h
def S_any (n : Nat) : DS := fun ds M Φ => ∃ (l l2 : Addr) (k : Nat), ds = [.adr l, .int (n : Int)] ∧ DealAt M k l l2 ∧ ∀ d gs m, AnyD n d → Good gs m → Φ d (put2 M k l l2 gs m)
theorem flat_all {L : List D} {x : D} (h : x ∈ L) (q : L.all flatD = true) : flatD x = true := List.all_eq_true.mp q x h
abbrev s_Lany : Stmt := top 18
theorem sc_Lany : FnScope ["_law_deal_here", "_law_deep", "_law_form", "_law_some", "_law_k"] ["_law_deal_here", "_law_deep"] (defScope s_Lany) := ⟨rfl, rfl, rfl, by decide +kernel, rfl, by decide +kernel, by decide +kernel⟩
theorem ok_Lany0 {f : Addr} {fd : FuncData} (F : FunD K "_law_any" "_law_any" (defArgs s_Lany) (defBody s_Lany) (defScope s_Lany) [] [] f fd) (B : Bf mg) (hDraw : HasFn P w K mg base 1 "_law_draw" S_draw) (hPick : HasFn P w K mg base 2 "_law_pick" S_pick) : FnOk P w K mg base CX0 3 f fd ["_law_deal_here", "_law_deep"] (spOf K (S_any 0)) := by
  refine fn_data (k := 2) F sc_Lany (fun ds M Φ h => ?_) (fun cdv A outer s H E ds M Φ hr h => ?_)
  · obtain ⟨l, l2, k, rfl, hD, q⟩ := h
    all_goals rfl
  · obtain ⟨l, l2, k, rfl, hD, q⟩ := h
    have hkl := hD.len
    refine ws_set 2 sc_Lany.nd ?_
    refine wcf hDraw (hr.mono (by omega)) ?_
    refine wa_cons ?_
    refine wv 0 rfl ?_
    refine wa_cons ?_
    refine we_int ?_
    refine wa_nil ?_
    refine ⟨l, l2, k, _, rfl, hD, by decide, by decide, fun fm gs1 m1 hf1 hf2 hg1 => ?_⟩
    refine ws_if ?_
    refine wt_bool ?_
    refine ww_and ?_
    refine wt_cmp ?_ (nomark _)
    refine wv 1 rfl ?_
    refine we_int ?_
    walk_at "op"
    refine ⟨_, rfl, ?_⟩
    refine ⟨fun hb => ?_, fun hb => ?_⟩
    · walk_at "dead"
    · walk_at "tidy"
      refine ⟨fun hb => ?_, fun hb => ?_⟩
      · walk_at "dead"
      · walk_at "tidy"
        refine ws_nil ?_
        refine ws_if ?_
        refine wt_cmp ?_ (nomark _)
        refine wv 2 rfl ?_
        refine we_int ?_
        walk_at "op"
        refine ⟨_, rfl, ?_⟩
        refine ⟨fun hb => ?_, fun hb => ?_⟩
        · first
          | (walk_at "dead")
          | (
            walk_at "tidy"
            refine ws_ret ?_
            refine wcf hPick (hr.mono (by omega)) ?_
            refine wa_cons ?_
            refine wv 0 rfl ?_
            refine wa_cons ?_
            refine we_lst ?_
            refine wa_cons ?_
            refine we_int ?_
            refine wa_cons ?_
            refine we_int ?_
            refine wa_cons ?_
            refine we_un ?_
            refine we_int ?_
            refine ud_neg ?_
            refine wa_cons ?_
            refine we_int ?_
            refine wa_cons ?_
            refine we_bin ?_
            refine we_int ?_
            refine we_int ?_
            refine od_powV (v := 10 ^ 20) ⟨by decide, by decide, by decide⟩ rfl ?_
            refine wa_cons ?_
            refine we_bl ?_
            refine wa_cons ?_
            refine we_bl ?_
            refine wa_cons ?_
            refine we_non ?_
            refine wa_nil ?_
            refine ⟨(by walk_at "size"), ?_⟩
            refine wa_nil ?_
            refine ⟨l, l2, k, _, .inl rfl, deal_put hkl hg1, of_decide_eq_true rfl, of_decide_eq_true rfl, fun x gs2 m2 hx hg2 => ?_⟩
            rw [put2_put2]
            first
            | exact q _ _ _ (any_flat (flat_all hx rfl)) hg2
            | exact q _ _ _ (.inr ⟨_, .inl rfl, by omega, ho2⟩) hg3
            | exact q _ _ _ (.inr ⟨_, .inr rfl, by omega, ho2⟩) hg3)
        · first
          | (walk_at "dead")
          | (
            walk_at "tidy"
            refine ws_nil ?_
            refine ws_ret ?_
            refine wcf hPick (hr.mono (by omega)) ?_
            refine wa_cons ?_
            refine wv 0 rfl ?_
            refine wa_cons ?_
            refine we_lst ?_
            refine wa_cons ?_
            refine we_str ?_
            refine wa_cons ?_
            refine we_str ?_
            refine wa_cons ?_
            refine we_str ?_
            refine wa_cons ?_
            refine we_str ?_
            refine wa_cons ?_
            refine we_str ?_
            refine wa_cons ?_
            refine we_str ?_
            refine wa_cons ?_
            refine we_str ?_
            refine wa_cons ?_
            refine we_str ?_
            refine wa_cons ?_
            refine we_str ?_
            refine wa_cons ?_
            refine we_str ?_
            refine wa_nil ?_
            refine ⟨(by walk_at "size"), ?_⟩
            refine wa_nil ?_
            refine ⟨l, l2, k, _, .inl rfl, deal_put hkl hg1, of_decide_eq_true rfl, of_decide_eq_true rfl, fun x gs2 m2 hx hg2 => ?_⟩
            rw [put2_put2]
            first
            | exact q _ _ _ (any_flat (flat_all hx rfl)) hg2
            | exact q _ _ _ (.inr ⟨_, .inl rfl, by omega, ho2⟩) hg3
            | exact q _ _ _ (.inr ⟨_, .inr rfl, by omega, ho2⟩) hg3)
theorem ok_LanyS {f : Addr} {fd : FuncData} (F : FunD K "_law_any" "_law_any" (defArgs s_Lany) (defBody s_Lany) (defScope s_Lany) [] [] f fd) (B : Bf mg) (hDraw : HasFn P w K mg base 1 "_law_draw" S_draw) (hPick : HasFn P w K mg base 2 "_law_pick" S_pick) (n : Nat) (hAny : HasFn P w K mg base (n + 3) "_law_any" (S_any n)) : FnOk P w K mg base CX0 (n + 3 + 1) f fd ["_law_deal_here", "_law_deep"] (spOf K (S_any (n + 1))) := by
  refine fn_data (k := n + 3) F sc_Lany (fun ds M Φ h => ?_) (fun cdv A outer s H E ds M Φ hr h => ?_)
  · obtain ⟨l, l2, k, rfl, hD, q⟩ := h
    all_goals rfl
  · obtain ⟨l, l2, k, rfl, hD, q⟩ := h
    have hkl := hD.len
    refine ws_set 2 sc_Lany.nd ?_
    refine wcf hDraw (hr.mono (by omega)) ?_
    refine wa_cons ?_
    refine wv 0 rfl ?_
    refine wa_cons ?_
    refine we_int ?_
    refine wa_nil ?_
    refine ⟨l, l2, k, _, rfl, hD, by decide, by decide, fun fm gs1 m1 hf1 hf2 hg1 => ?_⟩
    refine ws_if ?_
    refine wt_bool ?_
    refine ww_and ?_
    refine wt_cmp ?_ (nomark _)
    refine wv 1 rfl ?_
    refine we_int ?_
    walk_at "op"
    refine ⟨_, rfl, ?_⟩
    refine ⟨fun hb => ?_, fun hb => ?_⟩
    · walk_at "tidy"
      refine ww_and1 ?_
      refine wt_cmp ?_ (nomark _)
      refine wv 2 rfl ?_
      refine we_int ?_
      walk_at "op"
      refine ⟨_, rfl, ?_⟩
      refine ⟨fun hb => ?_, fun hb => ?_⟩
      · first
        | (walk_at "dead")
        | (
          walk_at "tidy"
          refine ws_lcR1 (own := [("_law_k", 4)]) (j := 4) 3 sc_Lany.nd B.range ?_ (blkOk_by (N := ["_law_deal_here", "_law_deep", "_law_form", "_law_some", "_law_k"]) (sc := defScope s_Lany) (by decide +kernel)) (fun _ _ _ _ _ => pg_name (i := 4) sc_Lany.nd rfl (Or.inl rfl))
          refine wa_cons ?_
          refine wcf hDraw (hr.mono (by omega)) ?_
          refine wa_cons ?_
          refine wv 0 rfl ?_
          refine wa_cons ?_
          refine we_int ?_
          refine wa_nil ?_
          refine ⟨l, l2, k, _, rfl, deal_put hkl hg1, by decide, by decide, fun fr gs2 m2 hr1 hr2 hg2 => ?_⟩
          rw [put2_put2]
          refine wa_nil ?_
          refine ⟨fun i out M' => out.length = i ∧ (∀ x, x ∈ out → AnyD n x) ∧ ∃ gs m, Good gs m ∧ M' = put2 M k l l2 gs m, _, rfl, by omega, by omega, ⟨rfl, fun x hx => (by cases hx), gs2, m2, hg2, rfl⟩, ?_, ?_⟩
          · rintro i l9 out M' hi ⟨ho1, ho2, gs3, m3, hg3, rfl⟩ s H C cl fp
            refine wts_nil ⟨fun _ s H C cl fp => ?_, fun z => by cases z⟩
            refine wcf hAny (hr.mono (by omega)) ?_
            refine wa_cons ?_
            refine wv 0 rfl ?_
            refine wa_cons ?_
            refine we_bin ?_
            refine wv 1 rfl ?_
            refine we_int ?_
            walk_at "op"
            refine wa_nil ?_
            refine ⟨l, l2, k + 1, (by rw [show ((n + 1 : Nat) : Int) - 1 = (n : Int) by omega]), deal_cons (deal_put hkl hg3), fun d gs4 m4 hd4 hg4 => ?_⟩
            refine ⟨_, rfl, by have he : sizeLine = 2 ^ 24 := rfl; omega, by rw [List.length_append, ho1]; rfl, fun x hx => ?_, gs4, m4, hg4, put2_put2⟩
            rcases List.mem_append.mp hx with hx | hx
            · exact ho2 x hx
            · rw [List.mem_singleton] at hx
              rw [hx]
              exact hd4
          rintro l9 out M' ⟨ho1, ho2, gs3, m3, hg3, rfl⟩
          refine ws_freeze (i := 3) rfl ?_
          refine ws_ret ?_
          refine we_if ?_
          refine wt_cmp ?_ (nomark _)
          refine wv 2 rfl ?_
          refine we_int ?_
          walk_at "op"
          refine ⟨_, rfl, ?_⟩
          refine ⟨fun hb => ?_, fun hb => ?_⟩
          · first
            | (walk_at "dead")
            | (
              walk_at "tidy"
              refine wcT B.tuple boot_tuple ?_
              refine wa_cons ?_
              refine wv 3 rfl ?_
              refine wa_nil ?_
              refine cd_tuple (.inl rfl) ?_
              first
              | exact q _ _ _ (any_flat (flat_all hx rfl)) hg2
              | exact q _ _ _ (.inr ⟨_, .inl rfl, by omega, ho2⟩) hg3
              | exact q _ _ _ (.inr ⟨_, .inr rfl, by omega, ho2⟩) hg3)
          · first
            | (walk_at "dead")
            | (
              walk_at "tidy"
              refine wv 3 rfl ?_
              first
              | exact q _ _ _ (any_flat (flat_all hx rfl)) hg2
              | exact q _ _ _ (.inr ⟨_, .inl rfl, by omega, ho2⟩) hg3
              | exact q _ _ _ (.inr ⟨_, .inr rfl, by omega, ho2⟩) hg3))
      · first
        | (walk_at "dead")
        | (
          walk_at "tidy"
          refine ws_nil ?_
          refine ws_if ?_
          refine wt_cmp ?_ (nomark _)
          refine wv 2 rfl ?_
          refine we_int ?_
          walk_at "op"
          refine ⟨_, rfl, ?_⟩
          refine ⟨fun hb => ?_, fun hb => ?_⟩
          · first
            | (walk_at "dead")
            | (
              walk_at "tidy"
              refine ws_ret ?_
              refine wcf hPick (hr.mono (by omega)) ?_
              refine wa_cons ?_
              refine wv 0 rfl ?_
              refine wa_cons ?_
              refine we_lst ?_
              refine wa_cons ?_
              refine we_int ?_
              refine wa_cons ?_
              refine we_int ?_
              refine wa_cons ?_
              refine we_un ?_
              refine we_int ?_
              refine ud_neg ?_
              refine wa_cons ?_
              refine we_int ?_
              refine wa_cons ?_
              refine we_bin ?_
              refine we_int ?_
              refine we_int ?_
              refine od_powV (v := 10 ^ 20) ⟨by decide, by decide, by decide⟩ rfl ?_
              refine wa_cons ?_
              refine we_bl ?_
              refine wa_cons ?_
              refine we_bl ?_
              refine wa_cons ?_
              refine we_non ?_
              refine wa_nil ?_
              refine ⟨(by walk_at "size"), ?_⟩
              refine wa_nil ?_
              refine ⟨l, l2, k, _, .inl rfl, deal_put hkl hg1, of_decide_eq_true rfl, of_decide_eq_true rfl, fun x gs2 m2 hx hg2 => ?_⟩
              rw [put2_put2]
              first
              | exact q _ _ _ (any_flat (flat_all hx rfl)) hg2
              | exact q _ _ _ (.inr ⟨_, .inl rfl, by omega, ho2⟩) hg3
              | exact q _ _ _ (.inr ⟨_, .inr rfl, by omega, ho2⟩) hg3)
          · first
            | (walk_at "dead")
            | (
              walk_at "tidy"
              refine ws_nil ?_
              refine ws_ret ?_
              refine wcf hPick (hr.mono (by omega)) ?_
              refine wa_cons ?_
              refine wv 0 rfl ?_
              refine wa_cons ?_
              refine we_lst ?_
              refine wa_cons ?_
              refine we_str ?_
              refine wa_cons ?_
              refine we_str ?_
              refine wa_cons ?_
              refine we_str ?_
              refine wa_cons ?_
              refine we_str ?_
              refine wa_cons ?_
              refine we_str ?_
              refine wa_cons ?_
              refine we_str ?_
              refine wa_cons ?_
              refine we_str ?_
              refine wa_cons ?_
              refine we_str ?_
              refine wa_cons ?_
              refine we_str ?_
              refine wa_cons ?_
              refine we_str ?_
              refine wa_nil ?_
              refine ⟨(by walk_at "size"), ?_⟩
              refine wa_nil ?_
              refine ⟨l, l2, k, _, .inl rfl, deal_put hkl hg1, of_decide_eq_true rfl, of_decide_eq_true rfl, fun x gs2 m2 hx hg2 => ?_⟩
              rw [put2_put2]
              first
              | exact q _ _ _ (any_flat (flat_all hx rfl)) hg2
              | exact q _ _ _ (.inr ⟨_, .inl rfl, by omega, ho2⟩) hg3
              | exact q _ _ _ (.inr ⟨_, .inr rfl, by omega, ho2⟩) hg3))
    · walk_at "dead"
end
end Sl57
set_option Elab.async false
set_option linter.all false
set_option maxRecDepth 100000
set_option maxHeartbeats 4000000
namespace Sl57
open PySem PySem.Spec PyProof.Rows L2 Dt
set_option hygiene false
local macro_rules | `(tactic| walk_at "op") => `(tactic| (first
  | refine od_add ?_ | refine od_sub ?_ | refine od_lt ?_ | refine od_le ?_ | refine od_gt ?_ | refine od_ge ?_ | refine od_eq ?_ | refine od_ne ?_ | refine od_is ?_ | refine od_isn ?_
  | refine od_eqS ?_ | refine od_neS ?_ | refine od_eqB ?_ | refine od_neB ?_))
local macro_rules | `(tactic| walk_at "dead") => `(tactic| (first
  | (cases hb; done)
  | (exact absurd (show false = true from hb) (by decide))
  | (exact absurd (show true = false from hb) (by decide))
  | (exact absurd hb (by decide))
  | (exfalso; simp only [decide_eq_true_eq, decide_eq_false_iff_not, Bool.not_eq_true', Bool.not_eq_false'] at hb; omega)))
local macro_rules | `(tactic| walk_at "tidy") => `(tactic| (try simp only [decide_eq_true_eq, decide_eq_false_iff_not, Bool.not_eq_true', Bool.not_eq_false'] at hb))
local macro_rules | `(tactic| walk_at "truth") => `(tactic| (first | refine tr_bl ?_ | refine tr_lst ?_ | refine tr_tup ?_ | refine tr_non ?_ | refine tr_int ?_))
local macro_rules | `(tactic| walk_at "ix") => `(tactic| (first
  | refine ix_tup (j := 0) rfl rfl ?_ | refine ix_tup (j := 1) rfl rfl ?_ | refine ix_tup (j := 2) rfl rfl ?_
  | refine ix_lst (j := 0) rfl rfl ?_ | refine ix_lst (j := 1) rfl rfl ?_ | refine ix_lst (j := 2) rfl rfl ?_
  | refine ix_own (k := 0) (j := 0) rfl rfl rfl ?_
  | refine ix_own (k := 0) (j := 1) rfl rfl rfl ?_
  | refine ix_own (k := 0) (j := 2) rfl rfl rfl ?_
  | refine ix_own (k := 1) (j := 0) rfl rfl rfl ?_
  | refine ix_own (k := 1) (j := 1) rfl rfl rfl ?_
  | refine ix_own (k := 1) (j := 2) rfl rfl rfl ?_
  | refine ix_own (k := 2) (j := 0) rfl rfl rfl ?_
  | refine ix_own (k := 2) (j := 1) rfl rfl rfl ?_
  | refine ix_own (k := 2) (j := 2) rfl rfl rfl ?_
  | refine ix_own (k := 3) (j := 0) rfl rfl rfl ?_
  | refine ix_own (k := 3) (j := 1) rfl rfl rfl ?_
  | refine ix_own (k := 3) (j := 2) rfl rfl rfl ?_
  | refine ix_own (k := 4) (j := 0) rfl rfl rfl ?_
  | refine ix_own (k := 4) (j := 1) rfl rfl rfl ?_
  | refine ix_own (k := 4) (j := 2) rfl rfl rfl ?_
  | refine ix_own (k := 5) (j := 0) rfl rfl rfl ?_
  | refine ix_own (k := 5) (j := 1) rfl rfl rfl ?_
  | refine ix_own (k := 5) (j := 2) rfl rfl rfl ?_
  | refine ix_own (k := 6) (j := 0) rfl rfl rfl ?_
  | refine ix_own (k := 6) (j := 1) rfl rfl rfl ?_
  | refine ix_own (k := 6) (j := 2) rfl rfl rfl ?_
  | refine ix_own (k := 7) (j := 0) rfl rfl rfl ?_
  | refine ix_own (k := 7) (j := 1) rfl rfl rfl ?_
  | refine ix_own (k := 7) (j := 2) rfl rfl rfl ?_
  | refine ix_own (k := 8) (j := 0) rfl rfl rfl ?_
  | refine ix_own (k := 8) (j := 1) rfl rfl rfl ?_
  | refine ix_own (k := 8) (j := 2) rfl rfl rfl ?_
  | refine ix_own (k := 9) (j := 0) rfl rfl rfl ?_
  | refine ix_own (k := 9) (j := 1) rfl rfl rfl ?_
  | refine ix_own (k := 9) (j := 2) rfl rfl rfl ?_
  | refine ix_own (k := 10) (j := 0) rfl rfl rfl ?_
  | refine ix_own (k := 10) (j := 1) rfl rfl rfl ?_
  | refine ix_own (k := 10) (j := 2) rfl rfl rfl ?_
  | refine ix_own (k := 11) (j := 0) rfl rfl rfl ?_
  | refine ix_own (k := 11) (j := 1) rfl rfl rfl ?_
  | refine ix_own (k := 11) (j := 2) rfl rfl rfl ?_
  | refine ix_own (k := 12) (j := 0) rfl rfl rfl ?_
  | refine ix_own (k := 12) (j := 1) rfl rfl rfl ?_
  | refine ix_own (k := 12) (j := 2) rfl rfl rfl ?_
  | refine ix_own (k := 13) (j := 0) rfl rfl rfl ?_
  | refine ix_own (k := 13) (j := 1) rfl rfl rfl ?_
  | refine ix_own (k := 13) (j := 2) rfl rfl rfl ?_))
local macro_rules | `(tactic| walk_at "seti") => `(tactic| (first
  | refine ⟨0, 0, _, _, _, rfl, rfl, rfl, rfl, of_decide_eq_true rfl, ?_⟩
  | refine ⟨0, 1, _, _, _, rfl, rfl, rfl, rfl, of_decide_eq_true rfl, ?_⟩
  | refine ⟨0, 2, _, _, _, rfl, rfl, rfl, rfl, of_decide_eq_true rfl, ?_⟩
  | refine ⟨1, 0, _, _, _, rfl, rfl, rfl, rfl, of_decide_eq_true rfl, ?_⟩
  | refine ⟨1, 1, _, _, _, rfl, rfl, rfl, rfl, of_decide_eq_true rfl, ?_⟩
  | refine ⟨1, 2, _, _, _, rfl, rfl, rfl, rfl, of_decide_eq_true rfl, ?_⟩
  | refine ⟨2, 0, _, _, _, rfl, rfl, rfl, rfl, of_decide_eq_true rfl, ?_⟩
  | refine ⟨2, 1, _, _, _, rfl, rfl, rfl, rfl, of_decide_eq_true rfl, ?_⟩
  | refine ⟨2, 2, _, _, _, rfl, rfl, rfl, rfl, of_decide_eq_true rfl, ?_⟩
  | refine ⟨3, 0, _, _, _, rfl, rfl, rfl, rfl, of_decide_eq_true rfl, ?_⟩
  | refine ⟨3, 1, _, _, _, rfl, rfl, rfl, rfl, of_decide_eq_true rfl, ?_⟩
  | refine ⟨3, 2, _, _, _, rfl, rfl, rfl, rfl, of_decide_eq_true rfl, ?_⟩
  | refine ⟨4, 0, _, _, _, rfl, rfl, rfl, rfl, of_decide_eq_true rfl, ?_⟩
  | refine ⟨4, 1, _, _, _, rfl, rfl, rfl, rfl, of_decide_eq_true rfl, ?_⟩
  | refine ⟨4, 2, _, _, _, rfl, rfl, rfl, rfl, of_decide_eq_true rfl, ?_⟩
  | refine ⟨5, 0, _, _, _, rfl, rfl, rfl, rfl, of_decide_eq_true rfl, ?_⟩
  | refine ⟨5, 1, _, _, _, rfl, rfl, rfl, rfl, of_decide_eq_true rfl, ?_⟩
  | refine ⟨5, 2, _, _, _, rfl, rfl, rfl, rfl, of_decide_eq_true rfl, ?_⟩
  | refine ⟨6, 0, _, _, _, rfl, rfl, rfl, rfl, of_decide_eq_true rfl, ?_⟩
  | refine ⟨6, 1, _, _, _, rfl, rfl, rfl, rfl, of_decide_eq_true rfl, ?_⟩
  | refine ⟨6, 2, _, _, _, rfl, rfl, rfl, rfl, of_decide_eq_true rfl, ?_⟩
  | refine ⟨7, 0, _, _, _, rfl, rfl, rfl, rfl, of_decide_eq_true rfl, ?_⟩
  | refine ⟨7, 1, _, _, _, rfl, rfl, rfl, rfl, of_decide_eq_true rfl, ?_⟩
  | refine ⟨7, 2, _, _, _, rfl, rfl, rfl, rfl, of_decide_eq_true rfl, ?_⟩
  | refine ⟨8, 0, _, _, _, rfl, rfl, rfl, rfl, of_decide_eq_true rfl, ?_⟩
  | refine ⟨8, 1, _, _, _, rfl, rfl, rfl, rfl, of_decide_eq_true rfl, ?_⟩
  | refine ⟨8, 2, _, _, _, rfl, rfl, rfl, rfl, of_decide_eq_true rfl, ?_⟩
  | refine ⟨9, 0, _, _, _, rfl, rfl, rfl, rfl, of_decide_eq_true rfl, ?_⟩
  | refine ⟨9, 1, _, _, _, rfl, rfl, rfl, rfl, of_decide_eq_true rfl, ?_⟩
  | refine ⟨9, 2, _, _, _, rfl, rfl, rfl, rfl, of_decide_eq_true rfl, ?_⟩
  | refine ⟨10, 0, _, _, _, rfl, rfl, rfl, rfl, of_decide_eq_true rfl, ?_⟩
  | refine ⟨10, 1, _, _, _, rfl, rfl, rfl, rfl, of_decide_eq_true rfl, ?_⟩
  | refine ⟨10, 2, _, _, _, rfl, rfl, rfl, rfl, of_decide_eq_true rfl, ?_⟩
  | refine ⟨11, 0, _, _, _, rfl, rfl, rfl, rfl, of_decide_eq_true rfl, ?_⟩
  | refine ⟨11, 1, _, _, _, rfl, rfl, rfl, rfl, of_decide_eq_true rfl, ?_⟩
  | refine ⟨11, 2, _, _, _, rfl, rfl, rfl, rfl, of_decide_eq_true rfl, ?_⟩
  | refine ⟨12, 0, _, _, _, rfl, rfl, rfl, rfl, of_decide_eq_true rfl, ?_⟩
  | refine ⟨12, 1, _, _, _, rfl, rfl, rfl, rfl, of_decide_eq_true rfl, ?_⟩
  | refine ⟨12, 2, _, _, _, rfl, rfl, rfl, rfl, of_decide_eq_true rfl, ?_⟩
  | refine ⟨13, 0, _, _, _, rfl, rfl, rfl, rfl, of_decide_eq_true rfl, ?_⟩
  | refine ⟨13, 1, _, _, _, rfl, rfl, rfl, rfl, of_decide_eq_true rfl, ?_⟩
  | refine ⟨13, 2, _, _, _, rfl, rfl, rfl, rfl, of_decide_eq_true rfl, ?_⟩))
local macro_rules | `(tactic| walk_at "lst") => `(tactic| (first
  | refine cd_list (.inr (.inr ⟨0, _, rfl, rfl⟩)) ?_
  | refine cd_list (.inr (.inr ⟨1, _, rfl, rfl⟩)) ?_
  | refine cd_list (.inr (.inr ⟨2, _, rfl, rfl⟩)) ?_
  | refine cd_list (.inr (.inr ⟨3, _, rfl, rfl⟩)) ?_
  | refine cd_list (.inr (.inr ⟨4, _, rfl, rfl⟩)) ?_
  | refine cd_list (.inr (.inr ⟨5, _, rfl, rfl⟩)) ?_
  | refine cd_list (.inr (.inr ⟨6, _, rfl, rfl⟩)) ?_
  | refine cd_list (.inr (.inr ⟨7, _, rfl, rfl⟩)) ?_
  | refine cd_list (.inr (.inr ⟨8, _, rfl, rfl⟩)) ?_
  | refine cd_list (.inr (.inr ⟨9, _, rfl, rfl⟩)) ?_
  | refine cd_list (.inr (.inr ⟨10, _, rfl, rfl⟩)) ?_
  | refine cd_list (.inr (.inr ⟨11, _, rfl, rfl⟩)) ?_
  | refine cd_list (.inr (.inr ⟨12, _, rfl, rfl⟩)) ?_
  | refine cd_list (.inr (.inr ⟨13, _, rfl, rfl⟩)) ?_))
local macro_rules | `(tactic| walk_at "isi") => `(tactic| (first | refine cd_isi (k := true) rfl (by decide +kernel) ?_ | refine cd_isi (k := false) rfl (by decide +kernel) ?_))
local macro_rules | `(tactic| walk_at "size") => `(tactic| (first
  | exact (show 0 ≤ sizeLine by decide) | exact (show 1 ≤ sizeLine by decide) | exact (show 2 ≤ sizeLine by decide) | exact (show 3 ≤ sizeLine by decide) | exact (show 4 ≤ sizeLine by decide) | exact (show 5 ≤ sizeLine by decide) | exact (show 6 ≤ sizeLine by decide) | exact (of_decide_eq_true rfl) | exact (Nat.le_of_ble_eq_true rfl)))
section
variable {P : Program} {w : World} {K : PySem.W.Frag} {mg : Str → Option Value} {base : Heap}
/-- what the classes of errors must say -/
structure ErA (K : PySem.W.Frag) (cs : Nat → Addr) (cR cN : Addr) : Prop where
  x_InvalidSite : XcC K (cs 0) "word"
  x_InvalidRow : XcC K (cs 1) "word"
  x_InvalidPlan : XcC K (cs 2) "word"
  x_InvalidText : XcC K (cs 3) "at"
  x_InvalidRun : XcC K (cs 4) "at"
  x_InvalidSpan : XcC K (cs 5) "word"
  x_InvalidCells : XcC K (cs 6) "at"
  x_Mismatch : XcC K (cs 8) "name"
  x_Refused : XcC K (cs 9) "word"
  x_NoRow : XcC K cR "at"
  x_NoName : XcC K cN "name"
/-- of which sort the class C is -/
structure Sort1 (K : PySem.W.Frag) (cs : Nat → Addr) (SE : Addr) (i : Nat) (C : Addr) : Prop where
  x : ∃ f, XcC K C f
  s : ∀ j, j < 10 → PySem.W.kitOne K (.ref C) (.ref (cs j)) = some (decide (i = j))
  se : PySem.W.kitOne K (.ref C) (.ref SE) = some true
  ve : PySem.W.kitOne K (.ref C) (.type "ValueError") = some true
  ke : PySem.W.kitOne K (.ref C) (.type "KeyError") = some false
  ie : PySem.W.kitOne K (.ref C) (.type "IndexError") = some false
def S_kept : DS := fun ds M Φ => ∃ d, ds = [d] ∧ Φ (.lst (List.replicate 11 d)) M
def S_sorts (K : PySem.W.Frag) (cs : Nat → Addr) (SE : Addr) : DS := fun ds M Φ => ∃ (C : Addr) (fs : List (Str × D)) (i : Nat), ds = [.exv C fs] ∧ Sort1 K cs SE i C ∧ Φ (.lst ((List.range 10).map fun j => D.bl (decide (i = j)))) M
theorem sms_all {c n : Nat} : ∀ {xs : List D}, (∀ x, x ∈ xs → smD x = true ∧ costD x ≤ c ∧ (py x).depth ≤ n) → smDs xs = true ∧ costDs xs ≤ xs.length * (c + 2) ∧ PyData.depthAll (pys xs) ≤ n
  | [], _ => ⟨rfl, Nat.zero_le _, Nat.zero_le _⟩
  | x :: xs, h => by
    obtain ⟨a1, a2, a3⟩ := h x List.mem_cons_self
    obtain ⟨b1, b2, b3⟩ := sms_all (xs := xs) fun y hy => h y (List.mem_cons_of_mem _ hy)
    refine ⟨?_, ?_, ?_⟩
    · show (smD x && smDs xs) = true
      rw [a1, b1]
      rfl
    · show costD x + 2 + costDs xs ≤ (xs.length + 1) * (c + 2)
      rw [Nat.add_mul]
      omega
    · show max (py x).depth (PyData.depthAll (pys xs)) ≤ n
      omega
def cb : Nat → Nat
  | 0 => 102
  | n + 1 => 3 * (cb n + 2) + 105
theorem flat_sm {d : D} {n : Nat} (h : flatD d = true) : smD d = true ∧ costD d ≤ 102 ∧ (py d).depth ≤ n := by
  cases d with
  | non => exact ⟨rfl, by decide, Nat.zero_le _⟩
  | bl b => exact ⟨rfl, by show 5 ≤ 102; decide, Nat.zero_le _⟩
  | int i => exact ⟨h, by show 101 ≤ 102; decide, Nat.zero_le _⟩
  | str x =>
    obtain ⟨h1, h2⟩ := Bool.and_eq_true_iff.mp (show (decide (x.cps.size ≤ 10) && x.cps.toList.all fun c => decide (c < 16 ^ 8)) = true from h)
    have h1 : x.length ≤ 10 := of_decide_eq_true h1
    exact ⟨h2, by show 10 * x.length + 2 ≤ 102; omega, Nat.zero_le _⟩
  | _ => cases h
theorem cb_le : ∀ n, 102 ≤ cb n
  | 0 => Nat.le_refl _
  | n + 1 => by show 102 ≤ 3 * (cb n + 2) + 105; omega
theorem any_sm : ∀ {n : Nat} {d : D}, AnyD n d → smD d = true ∧ costD d ≤ cb n ∧ (py d).depth ≤ n
  | 0, d, h => flat_sm h
  | n + 1, d, h => by
    rcases h with h | ⟨xs, rfl | rfl, hl, ha⟩
    · obtain ⟨a, b, c⟩ := flat_sm (n := n + 1) h
      exact ⟨a, Nat.le_trans b (cb_le _), c⟩
    all_goals
      obtain ⟨a, b, c⟩ := sms_all (c := cb n) (n := n) fun x hx => any_sm (ha x hx)
      have h1 : xs.length * (cb n + 2) ≤ 3 * (cb n + 2) := Nat.mul_le_mul_right _ hl
      refine ⟨a, ?_, ?_⟩
      · show costDs xs + 3 ≤ 3 * (cb n + 2) + 105
        omega
      · show PyData.depthAll (pys xs) + 1 ≤ n + 1
        omega
theorem two_sm {a b : D} (ha : AnyD 4 a) (hb : AnyD 2 b) : smDs [a, b] = true ∧ costDs [a, b] + 3 ≤ sizeLine ∧ PyData.depthAll (pys [a, b]) ≤ 4 := by
  obtain ⟨a1, a2, a3⟩ := any_sm ha
  obtain ⟨b1, b2, b3⟩ := any_sm hb
  obtain ⟨c1, c2, c3⟩ := sms_all (c := cb 4) (n := 4) (xs := [a, b]) fun x hx => by
    simp only [List.mem_cons, List.not_mem_nil, or_false] at hx
    rcases hx with rfl | rfl
    · exact ⟨a1, a2, a3⟩
    · exact ⟨b1, Nat.le_trans b2 (by decide), by omega⟩
  refine ⟨c1, ?_, c3⟩
  have e : ([a, b] : List D).length * (cb 4 + 2) ≤ 100000 := by show 2 * (cb 4 + 2) ≤ 100000; decide
  have h5 : sizeLine = 2 ^ 24 := rfl
  omega
theorem kon {X : Cx} {M : Mem} {Φ : VP} {cs : Nat → Addr} {SE C : Addr} {i : Nat} {fs : List (Str × D)} (j : Nat) (h : Sort1 X.K cs SE i C) (hj : j < 10) (q : Φ (.bl (decide (i = j))) M) : CaD X (.builtin "isinstance") [.exv C fs, .adr (cs j)] M Φ := by
  obtain ⟨f, T⟩ := h.x
  exact cd_isV T cls_adr (h.s j hj) q
abbrev s_Lkept : Stmt := top 19
theorem sc_Lkept : FnScope ["_law_thing", "_law_found"] ["_law_thing"] (defScope s_Lkept) := ⟨rfl, rfl, rfl, by decide +kernel, rfl, by decide +kernel, by decide +kernel⟩
theorem ok_Lkept {f : Addr} {fd : FuncData} (F : FunD K "_law_kept" "_law_kept" (defArgs s_Lkept) (defBody s_Lkept) (defScope s_Lkept) [] [] f fd) (B : Bf mg) {cs : Nat → Addr} {cR cN : Addr} (hX : ErA K cs cR cN) (hE_InvalidSite : HasEx P w K mg base 1 (cs 0) "InvalidSite" "word") (hE_InvalidRow : HasEx P w K mg base 1 (cs 1) "InvalidRow" "word") (hE_InvalidPlan : HasEx P w K mg base 1 (cs 2) "InvalidPlan" "word") (hE_InvalidSpan : HasEx P w K mg base 1 (cs 5) "InvalidSpan" "word") (hE_Refused : HasEx P w K mg base 1 (cs 9) "Refused" "word") (hE_InvalidText : HasEx P w K mg base 1 (cs 3) "InvalidText" "at") (hE_InvalidRun : HasEx P w K mg base 1 (cs 4) "InvalidRun" "at") (hE_InvalidCells : HasEx P w K mg base 1 (cs 6) "InvalidCells" "at") (hE_NoRow : HasExG P w K mg base 1 cR "NoRow" "at") (hE_Mismatch : HasEx P w K mg base 1 (cs 8) "Mismatch" "name") (hE_NoName : HasExG P w K mg base 1 cN "NoName" "name") : FnOk P w K mg base CX0 3 f fd ["_law_thing"] (spOf K S_kept) := by
  refine fn_data (k := 2) F sc_Lkept (fun ds M Φ h => ?_) (fun cdv A outer s H E ds M Φ hr h => ?_)
  · obtain ⟨d, rfl, q⟩ := h
    all_goals rfl
  · obtain ⟨d, rfl, q⟩ := h
    refine ws_set 1 sc_Lkept.nd ?_
    refine we_lstO ?_
    refine wa_cons ?_
    refine we_attr ?_ (by rfl)
    refine we_mkE hE_InvalidSite (hr.mono (by decide)) ?_
    refine wa_cons ?_
    refine wv 0 rfl ?_
    refine wa_nil ?_
    refine ⟨_, rfl, ?_⟩
    refine at_exv hX.x_InvalidSite.xf hX.x_InvalidSite.no lk_here ?_
    refine wa_cons ?_
    refine we_attr ?_ (by rfl)
    refine we_mkE hE_InvalidRow (hr.mono (by decide)) ?_
    refine wa_cons ?_
    refine wv 0 rfl ?_
    refine wa_nil ?_
    refine ⟨_, rfl, ?_⟩
    refine at_exv hX.x_InvalidRow.xf hX.x_InvalidRow.no lk_here ?_
    refine wa_cons ?_
    refine we_attr ?_ (by rfl)
    refine we_mkE hE_InvalidPlan (hr.mono (by decide)) ?_
    refine wa_cons ?_
    refine wv 0 rfl ?_
    refine wa_nil ?_
    refine ⟨_, rfl, ?_⟩
    refine at_exv hX.x_InvalidPlan.xf hX.x_InvalidPlan.no lk_here ?_
    refine wa_cons ?_
    refine we_attr ?_ (by rfl)
    refine we_mkE hE_InvalidSpan (hr.mono (by decide)) ?_
    refine wa_cons ?_
    refine wv 0 rfl ?_
    refine wa_nil ?_
    refine ⟨_, rfl, ?_⟩
    refine at_exv hX.x_InvalidSpan.xf hX.x_InvalidSpan.no lk_here ?_
    refine wa_nil ?_
    refine ⟨(by walk_at "size"), fun l_1 => ?_⟩
    refine ws_expr ?_
    refine we_extend ?_
    refine wv 1 rfl ?_
    refine ⟨_, 0, _, rfl, rfl, ?_⟩
    refine we_lstO ?_
    refine wa_cons ?_
    refine we_attr ?_ (by rfl)
    refine we_mkE hE_Refused (hr.mono (by decide)) ?_
    refine wa_cons ?_
    refine wv 0 rfl ?_
    refine wa_nil ?_
    refine ⟨_, rfl, ?_⟩
    refine at_exv hX.x_Refused.xf hX.x_Refused.no lk_here ?_
    refine wa_cons ?_
    refine we_attr ?_ (by rfl)
    refine we_mkE hE_InvalidText (hr.mono (by decide)) ?_
    refine wa_cons ?_
    refine wv 0 rfl ?_
    refine wa_nil ?_
    refine ⟨_, rfl, ?_⟩
    refine at_exv hX.x_InvalidText.xf hX.x_InvalidText.no lk_here ?_
    refine wa_cons ?_
    refine we_attr ?_ (by rfl)
    refine we_mkE hE_InvalidRun (hr.mono (by decide)) ?_
    refine wa_cons ?_
    refine wv 0 rfl ?_
    refine wa_nil ?_
    refine ⟨_, rfl, ?_⟩
    refine at_exv hX.x_InvalidRun.xf hX.x_InvalidRun.no lk_here ?_
    refine wa_cons ?_
    refine we_attr ?_ (by rfl)
    refine we_mkE hE_InvalidCells (hr.mono (by decide)) ?_
    refine wa_cons ?_
    refine wv 0 rfl ?_
    refine wa_nil ?_
    refine ⟨_, rfl, ?_⟩
    refine at_exv hX.x_InvalidCells.xf hX.x_InvalidCells.no lk_here ?_
    refine wa_nil ?_
    refine ⟨(by walk_at "size"), fun l_2 => ?_⟩
    refine ⟨1, 0, _, _, _, rfl, rfl, rfl, of_decide_eq_true rfl, ?_⟩
    refine ws_wk (Γ' := [some d, some (.adr l_1)]) (M' := (l_1, .lst (List.replicate 8 d)) :: M) (by repeat (first | exact wkE | refine wkS ?_ | refine wkN ?_)) (.cons _ (List.Sublist.refl _)) ?_
    refine ws_ret ?_
    refine we_less ?_
    refine we_bin ?_
    refine wv 1 rfl ?_
    refine we_lst ?_
    refine wa_cons ?_
    refine we_attr ?_ (by rfl)
    refine we_mkEG hE_NoRow (hr.mono (by decide)) ?_
    refine wa_cons ?_
    refine wv 0 rfl ?_
    refine wa_nil ?_
    refine ⟨_, rfl, ?_⟩
    refine at_exv hX.x_NoRow.xf hX.x_NoRow.no lk_here ?_
    refine wa_cons ?_
    refine we_attr ?_ (by rfl)
    refine we_mkE hE_Mismatch (hr.mono (by decide)) ?_
    refine wa_cons ?_
    refine wv 0 rfl ?_
    refine wa_nil ?_
    refine ⟨_, rfl, ?_⟩
    refine at_exv hX.x_Mismatch.xf hX.x_Mismatch.no lk_here ?_
    refine wa_cons ?_
    refine we_attr ?_ (by rfl)
    refine we_mkEG hE_NoName (hr.mono (by decide)) ?_
    refine wa_cons ?_
    refine wv 0 rfl ?_
    refine wa_nil ?_
    refine ⟨_, rfl, ?_⟩
    refine at_exv hX.x_NoName.xf hX.x_NoName.no lk_here ?_
    refine wa_nil ?_
    refine ⟨(by walk_at "size"), ?_⟩
    refine od_catL (.inr ⟨0, _, rfl, rfl⟩) (.inl rfl) (of_decide_eq_true rfl) ?_
    exact ⟨_, .cons _ (List.Sublist.refl _), q⟩
abbrev s_Lsorts : Stmt := top 20
theorem sc_Lsorts : FnScope ["_law_one", "_law_found"] ["_law_one"] (defScope s_Lsorts) := ⟨rfl, rfl, rfl, by decide +kernel, rfl, by decide +kernel, by decide +kernel⟩
theorem ok_Lsorts {f : Addr} {fd : FuncData} (F : FunD K "_law_sorts" "_law_sorts" (defArgs s_Lsorts) (defBody s_Lsorts) (defScope s_Lsorts) [] [] f fd) (B : Bf mg) {cs : Nat → Addr} {SE : Addr} (hm_InvalidSite : mg "InvalidSite" = some (.ref (cs 0))) (hm_InvalidRow : mg "InvalidRow" = some (.ref (cs 1))) (hm_InvalidPlan : mg "InvalidPlan" = some (.ref (cs 2))) (hm_InvalidText : mg "InvalidText" = some (.ref (cs 3))) (hm_InvalidRun : mg "InvalidRun" = some (.ref (cs 4))) (hm_InvalidSpan : mg "InvalidSpan" = some (.ref (cs 5))) (hm_InvalidCells : mg "InvalidCells" = some (.ref (cs 6))) (hm_InvalidCommand : mg "InvalidCommand" = some (.ref (cs 7))) (hm_Mismatch : mg "Mismatch" = some (.ref (cs 8))) (hm_Refused : mg "Refused" = some (.ref (cs 9))) : FnOk P w K mg base CX0 2 f fd ["_law_one"] (spOf K (S_sorts K cs SE)) := by
  refine fn_data (k := 1) F sc_Lsorts (fun ds M Φ h => ?_) (fun cdv A outer s H E ds M Φ hr h => ?_)
  · obtain ⟨C, fs, i, rfl, hs, q⟩ := h
    all_goals rfl
  · obtain ⟨C, fs, i, rfl, hs, q⟩ := h
    refine ws_set 1 sc_Lsorts.nd ?_
    refine we_lstO ?_
    refine wa_cons ?_
    refine wcB B.isi boot_isinstance ?_
    refine wa_cons ?_
    refine wv 0 rfl ?_
    refine wa_cons ?_
    refine wgl hm_InvalidSite ?_
    refine wa_nil ?_
    refine kon 0 hs (by decide) ?_
    refine wa_cons ?_
    refine wcB B.isi boot_isinstance ?_
    refine wa_cons ?_
    refine wv 0 rfl ?_
    refine wa_cons ?_
    refine wgl hm_InvalidRow ?_
    refine wa_nil ?_
    refine kon 1 hs (by decide) ?_
    refine wa_cons ?_
    refine wcB B.isi boot_isinstance ?_
    refine wa_cons ?_
    refine wv 0 rfl ?_
    refine wa_cons ?_
    refine wgl hm_InvalidPlan ?_
    refine wa_nil ?_
    refine kon 2 hs (by decide) ?_
    refine wa_nil ?_
    refine ⟨(by walk_at "size"), fun l_1 => ?_⟩
    refine ws_expr ?_
    refine we_extend ?_
    refine wv 1 rfl ?_
    refine ⟨_, 0, _, rfl, rfl, ?_⟩
    refine we_lstO ?_
    refine wa_cons ?_
    refine wcB B.isi boot_isinstance ?_
    refine wa_cons ?_
    refine wv 0 rfl ?_
    refine wa_cons ?_
    refine wgl hm_InvalidText ?_
    refine wa_nil ?_
    refine kon 3 hs (by decide) ?_
    refine wa_cons ?_
    refine wcB B.isi boot_isinstance ?_
    refine wa_cons ?_
    refine wv 0 rfl ?_
    refine wa_cons ?_
    refine wgl hm_InvalidRun ?_
    refine wa_nil ?_
    refine kon 4 hs (by decide) ?_
    refine wa_cons ?_
    refine wcB B.isi boot_isinstance ?_
    refine wa_cons ?_
    refine wv 0 rfl ?_
    refine wa_cons ?_
    refine wgl hm_InvalidSpan ?_
    refine wa_nil ?_
    refine kon 5 hs (by decide) ?_
    refine wa_nil ?_
    refine ⟨(by walk_at "size"), fun l_2 => ?_⟩
    refine ⟨1, 0, _, _, _, rfl, rfl, rfl, of_decide_eq_true rfl, ?_⟩
    refine ws_wk (Γ' := [some (.exv C fs), some (.adr l_1)]) (M' := (l_1, .lst [D.bl (decide (i = 0)), D.bl (decide (i = 1)), D.bl (decide (i = 2)), D.bl (decide (i = 3)), D.bl (decide (i = 4)), D.bl (decide (i = 5))]) :: M) (by repeat (first | exact wkE | refine wkS ?_ | refine wkN ?_)) (.cons _ (List.Sublist.refl _)) ?_
    refine ws_expr ?_
    refine we_extend ?_
    refine wv 1 rfl ?_
    refine ⟨_, 0, _, rfl, rfl, ?_⟩
    refine we_lstO ?_
    refine wa_cons ?_
    refine wcB B.isi boot_isinstance ?_
    refine wa_cons ?_
    refine wv 0 rfl ?_
    refine wa_cons ?_
    refine wgl hm_InvalidCells ?_
    refine wa_nil ?_
    refine kon 6 hs (by decide) ?_
    refine wa_cons ?_
    refine wcB B.isi boot_isinstance ?_
    refine wa_cons ?_
    refine wv 0 rfl ?_
    refine wa_cons ?_
    refine wgl hm_InvalidCommand ?_
    refine wa_nil ?_
    refine kon 7 hs (by decide) ?_
    refine wa_nil ?_
    refine ⟨(by walk_at "size"), fun l_3 => ?_⟩
    refine ⟨1, 0, _, _, _, rfl, rfl, rfl, of_decide_eq_true rfl, ?_⟩
    refine ws_wk (Γ' := [some (.exv C fs), some (.adr l_1)]) (M' := (l_1, .lst [D.bl (decide (i = 0)), D.bl (decide (i = 1)), D.bl (decide (i = 2)), D.bl (decide (i = 3)), D.bl (decide (i = 4)), D.bl (decide (i = 5)), D.bl (decide (i = 6)), D.bl (decide (i = 7))]) :: M) (by repeat (first | exact wkE | refine wkS ?_ | refine wkN ?_)) (.cons _ (List.Sublist.refl _)) ?_
    refine ws_ret ?_
    refine we_less ?_
    refine we_bin ?_
    refine wv 1 rfl ?_
    refine we_lst ?_
    refine wa_cons ?_
    refine wcB B.isi boot_isinstance ?_
    refine wa_cons ?_
    refine wv 0 rfl ?_
    refine wa_cons ?_
    refine wgl hm_Mismatch ?_
    refine wa_nil ?_
    refine kon 8 hs (by decide) ?_
    refine wa_cons ?_
    refine wcB B.isi boot_isinstance ?_
    refine wa_cons ?_
    refine wv 0 rfl ?_
    refine wa_cons ?_
    refine wgl hm_Refused ?_
    refine wa_nil ?_
    refine kon 9 hs (by decide) ?_
    refine wa_nil ?_
    refine ⟨(by walk_at "size"), ?_⟩
    refine od_catL (.inr ⟨0, _, rfl, rfl⟩) (.inl rfl) (of_decide_eq_true rfl) ?_
    exact ⟨_, .cons _ (List.Sublist.refl _), q⟩
end
end Sl57
set_option Elab.async false
set_option linter.all false
set_option maxRecDepth 100000
set_option maxHeartbeats 4000000
namespace Sl57
open PySem PySem.Spec PyProof.Rows L2 Dt
set_option hygiene false
local macro_rules | `(tactic| walk_at "op") => `(tactic| (first
  | refine od_add ?_ | refine od_sub ?_ | refine od_lt ?_ | refine od_le ?_ | refine od_gt ?_ | refine od_ge ?_ | refine od_eq ?_ | refine od_ne ?_ | refine od_is ?_ | refine od_isn ?_
  | refine od_eqS ?_ | refine od_neS ?_ | refine od_eqB ?_ | refine od_neB ?_))
local macro_rules | `(tactic| walk_at "dead") => `(tactic| (first
  | (cases hb; done)
  | (exact absurd (show false = true from hb) (by decide))
  | (exact absurd (show true = false from hb) (by decide))
  | (exact absurd hb (by decide))
  | (exfalso; simp only [decide_eq_true_eq, decide_eq_false_iff_not, Bool.not_eq_true', Bool.not_eq_false'] at hb; omega)))
local macro_rules | `(tactic| walk_at "tidy") => `(tactic| (try simp only [decide_eq_true_eq, decide_eq_false_iff_not, Bool.not_eq_true', Bool.not_eq_false'] at hb))
local macro_rules | `(tactic| walk_at "truth") => `(tactic| (first | refine tr_bl ?_ | refine tr_lst ?_ | refine tr_tup ?_ | refine tr_non ?_ | refine tr_int ?_))
local macro_rules | `(tactic| walk_at "ix") => `(tactic| (first
  | refine ix_tup (j := 0) rfl rfl ?_ | refine ix_tup (j := 1) rfl rfl ?_ | refine ix_tup (j := 2) rfl rfl ?_
  | refine ix_lst (j := 0) rfl rfl ?_ | refine ix_lst (j := 1) rfl rfl ?_ | refine ix_lst (j := 2) rfl rfl ?_
  | refine ix_own (k := 0) (j := 0) rfl rfl rfl ?_
  | refine ix_own (k := 0) (j := 1) rfl rfl rfl ?_
  | refine ix_own (k := 0) (j := 2) rfl rfl rfl ?_
  | refine ix_own (k := 1) (j := 0) rfl rfl rfl ?_
  | refine ix_own (k := 1) (j := 1) rfl rfl rfl ?_
  | refine ix_own (k := 1) (j := 2) rfl rfl rfl ?_
  | refine ix_own (k := 2) (j := 0) rfl rfl rfl ?_
  | refine ix_own (k := 2) (j := 1) rfl rfl rfl ?_
  | refine ix_own (k := 2) (j := 2) rfl rfl rfl ?_
  | refine ix_own (k := 3) (j := 0) rfl rfl rfl ?_
  | refine ix_own (k := 3) (j := 1) rfl rfl rfl ?_
  | refine ix_own (k := 3) (j := 2) rfl rfl rfl ?_
  | refine ix_own (k := 4) (j := 0) rfl rfl rfl ?_
  | refine ix_own (k := 4) (j := 1) rfl rfl rfl ?_
  | refine ix_own (k := 4) (j := 2) rfl rfl rfl ?_
  | refine ix_own (k := 5) (j := 0) rfl rfl rfl ?_
  | refine ix_own (k := 5) (j := 1) rfl rfl rfl ?_
  | refine ix_own (k := 5) (j := 2) rfl rfl rfl ?_
  | refine ix_own (k := 6) (j := 0) rfl rfl rfl ?_
  | refine ix_own (k := 6) (j := 1) rfl rfl rfl ?_
  | refine ix_own (k := 6) (j := 2) rfl rfl rfl ?_
  | refine ix_own (k := 7) (j := 0) rfl rfl rfl ?_
  | refine ix_own (k := 7) (j := 1) rfl rfl rfl ?_
  | refine ix_own (k := 7) (j := 2) rfl rfl rfl ?_
  | refine ix_own (k := 8) (j := 0) rfl rfl rfl ?_
  | refine ix_own (k := 8) (j := 1) rfl rfl rfl ?_
  | refine ix_own (k := 8) (j := 2) rfl rfl rfl ?_
  | refine ix_own (k := 9) (j := 0) rfl rfl rfl ?_
  | refine ix_own (k := 9) (j := 1) rfl rfl rfl ?_
  | refine ix_own (k := 9) (j := 2) rfl rfl rfl ?_
  | refine ix_own (k := 10) (j := 0) rfl rfl rfl ?_
  | refine ix_own (k := 10) (j := 1) rfl rfl rfl ?_
  | refine ix_own (k := 10) (j := 2) rfl rfl rfl ?_
  | refine ix_own (k := 11) (j := 0) rfl rfl rfl ?_
  | refine ix_own (k := 11) (j := 1) rfl rfl rfl ?_
  | refine ix_own (k := 11) (j := 2) rfl rfl rfl ?_
  | refine ix_own (k := 12) (j := 0) rfl rfl rfl ?_
  | refine ix_own (k := 12) (j := 1) rfl rfl rfl ?_
  | refine ix_own (k := 12) (j := 2) rfl rfl rfl ?_
  | refine ix_own (k := 13) (j := 0) rfl rfl rfl ?_
  | refine ix_own (k := 13) (j := 1) rfl rfl rfl ?_
  | refine ix_own (k := 13) (j := 2) rfl rfl rfl ?_))
local macro_rules | `(tactic| walk_at "seti") => `(tactic| (first
  | refine ⟨0, 0, _, _, _, rfl, rfl, rfl, rfl, of_decide_eq_true rfl, ?_⟩
  | refine ⟨0, 1, _, _, _, rfl, rfl, rfl, rfl, of_decide_eq_true rfl, ?_⟩
  | refine ⟨0, 2, _, _, _, rfl, rfl, rfl, rfl, of_decide_eq_true rfl, ?_⟩
  | refine ⟨1, 0, _, _, _, rfl, rfl, rfl, rfl, of_decide_eq_true rfl, ?_⟩
  | refine ⟨1, 1, _, _, _, rfl, rfl, rfl, rfl, of_decide_eq_true rfl, ?_⟩
  | refine ⟨1, 2, _, _, _, rfl, rfl, rfl, rfl, of_decide_eq_true rfl, ?_⟩
  | refine ⟨2, 0, _, _, _, rfl, rfl, rfl, rfl, of_decide_eq_true rfl, ?_⟩
  | refine ⟨2, 1, _, _, _, rfl, rfl, rfl, rfl, of_decide_eq_true rfl, ?_⟩
  | refine ⟨2, 2, _, _, _, rfl, rfl, rfl, rfl, of_decide_eq_true rfl, ?_⟩
  | refine ⟨3, 0, _, _, _, rfl, rfl, rfl, rfl, of_decide_eq_true rfl, ?_⟩
  | refine ⟨3, 1, _, _, _, rfl, rfl, rfl, rfl, of_decide_eq_true rfl, ?_⟩
  | refine ⟨3, 2, _, _, _, rfl, rfl, rfl, rfl, of_decide_eq_true rfl, ?_⟩
  | refine ⟨4, 0, _, _, _, rfl, rfl, rfl, rfl, of_decide_eq_true rfl, ?_⟩
  | refine ⟨4, 1, _, _, _, rfl, rfl, rfl, rfl, of_decide_eq_true rfl, ?_⟩
  | refine ⟨4, 2, _, _, _, rfl, rfl, rfl, rfl, of_decide_eq_true rfl, ?_⟩
  | refine ⟨5, 0, _, _, _, rfl, rfl, rfl, rfl, of_decide_eq_true rfl, ?_⟩
  | refine ⟨5, 1, _, _, _, rfl, rfl, rfl, rfl, of_decide_eq_true rfl, ?_⟩
  | refine ⟨5, 2, _, _, _, rfl, rfl, rfl, rfl, of_decide_eq_true rfl, ?_⟩
  | refine ⟨6, 0, _, _, _, rfl, rfl, rfl, rfl, of_decide_eq_true rfl, ?_⟩
  | refine ⟨6, 1, _, _, _, rfl, rfl, rfl, rfl, of_decide_eq_true rfl, ?_⟩
  | refine ⟨6, 2, _, _, _, rfl, rfl, rfl, rfl, of_decide_eq_true rfl, ?_⟩
  | refine ⟨7, 0, _, _, _, rfl, rfl, rfl, rfl, of_decide_eq_true rfl, ?_⟩
  | refine ⟨7, 1, _, _, _, rfl, rfl, rfl, rfl, of_decide_eq_true rfl, ?_⟩
  | refine ⟨7, 2, _, _, _, rfl, rfl, rfl, rfl, of_decide_eq_true rfl, ?_⟩
  | refine ⟨8, 0, _, _, _, rfl, rfl, rfl, rfl, of_decide_eq_true rfl, ?_⟩
  | refine ⟨8, 1, _, _, _, rfl, rfl, rfl, rfl, of_decide_eq_true rfl, ?_⟩
  | refine ⟨8, 2, _, _, _, rfl, rfl, rfl, rfl, of_decide_eq_true rfl, ?_⟩
  | refine ⟨9, 0, _, _, _, rfl, rfl, rfl, rfl, of_decide_eq_true rfl, ?_⟩
  | refine ⟨9, 1, _, _, _, rfl, rfl, rfl, rfl, of_decide_eq_true rfl, ?_⟩
  | refine ⟨9, 2, _, _, _, rfl, rfl, rfl, rfl, of_decide_eq_true rfl, ?_⟩
  | refine ⟨10, 0, _, _, _, rfl, rfl, rfl, rfl, of_decide_eq_true rfl, ?_⟩
  | refine ⟨10, 1, _, _, _, rfl, rfl, rfl, rfl, of_decide_eq_true rfl, ?_⟩
  | refine ⟨10, 2, _, _, _, rfl, rfl, rfl, rfl, of_decide_eq_true rfl, ?_⟩
  | refine ⟨11, 0, _, _, _, rfl, rfl, rfl, rfl, of_decide_eq_true rfl, ?_⟩
  | refine ⟨11, 1, _, _, _, rfl, rfl, rfl, rfl, of_decide_eq_true rfl, ?_⟩
  | refine ⟨11, 2, _, _, _, rfl, rfl, rfl, rfl, of_decide_eq_true rfl, ?_⟩
  | refine ⟨12, 0, _, _, _, rfl, rfl, rfl, rfl, of_decide_eq_true rfl, ?_⟩
  | refine ⟨12, 1, _, _, _, rfl, rfl, rfl, rfl, of_decide_eq_true rfl, ?_⟩
  | refine ⟨12, 2, _, _, _, rfl, rfl, rfl, rfl, of_decide_eq_true rfl, ?_⟩
  | refine ⟨13, 0, _, _, _, rfl, rfl, rfl, rfl, of_decide_eq_true rfl, ?_⟩
  | refine ⟨13, 1, _, _, _, rfl, rfl, rfl, rfl, of_decide_eq_true rfl, ?_⟩
  | refine ⟨13, 2, _, _, _, rfl, rfl, rfl, rfl, of_decide_eq_true rfl, ?_⟩))
local macro_rules | `(tactic| walk_at "lst") => `(tactic| (first
  | refine cd_list (.inr (.inr ⟨0, _, rfl, rfl⟩)) ?_
  | refine cd_list (.inr (.inr ⟨1, _, rfl, rfl⟩)) ?_
  | refine cd_list (.inr (.inr ⟨2, _, rfl, rfl⟩)) ?_
  | refine cd_list (.inr (.inr ⟨3, _, rfl, rfl⟩)) ?_
  | refine cd_list (.inr (.inr ⟨4, _, rfl, rfl⟩)) ?_
  | refine cd_list (.inr (.inr ⟨5, _, rfl, rfl⟩)) ?_
  | refine cd_list (.inr (.inr ⟨6, _, rfl, rfl⟩)) ?_
  | refine cd_list (.inr (.inr ⟨7, _, rfl, rfl⟩)) ?_
  | refine cd_list (.inr (.inr ⟨8, _, rfl, rfl⟩)) ?_
  | refine cd_list (.inr (.inr ⟨9, _, rfl, rfl⟩)) ?_
  | refine cd_list (.inr (.inr ⟨10, _, rfl, rfl⟩)) ?_
  | refine cd_list (.inr (.inr ⟨11, _, rfl, rfl⟩)) ?_
  | refine cd_list (.inr (.inr ⟨12, _, rfl, rfl⟩)) ?_
  | refine cd_list (.inr (.inr ⟨13, _, rfl, rfl⟩)) ?_))
local macro_rules | `(tactic| walk_at "isi") => `(tactic| (first | refine cd_isi (k := true) rfl (by decide +kernel) ?_ | refine cd_isi (k := false) rfl (by decide +kernel) ?_))
local macro_rules | `(tactic| walk_at "size") => `(tactic| (first
  | exact (show 0 ≤ sizeLine by decide) | exact (show 1 ≤ sizeLine by decide) | exact (show 2 ≤ sizeLine by decide) | exact (show 3 ≤ sizeLine by decide) | exact (show 4 ≤ sizeLine by decide) | exact (show 5 ≤ sizeLine by decide) | exact (show 6 ≤ sizeLine by decide) | exact (of_decide_eq_true rfl) | exact (Nat.le_of_ble_eq_true rfl)))
section
variable {P : Program} {w : World} {K : PySem.W.Frag} {mg : Str → Option Value} {base : Heap}
abbrev dl (l l2 : Addr) (gs : List Int) (m : Int) : Mem := [(l, .lst [.adr l2, .int m]), (l2, .lst (gs.map D.int))]
theorem dl_at {l l2 : Addr} {gs : List Int} {m : Int} (g : Good gs m) : DealAt (dl l l2 gs m) 0 l l2 := ⟨gs, m, g, rfl, rfl⟩
theorem dl_put {l l2 : Addr} {gs gs' : List Int} {m m' : Int} : put2 (dl l l2 gs m) 0 l l2 gs' m' = dl l l2 gs' m' := rfl
def S_law : DS := fun ds M Φ => ∃ ns : List Int, ds = [.lst (ns.map .int)] ∧ ns.length ≤ 63 ∧ M = [] ∧ ∀ M', Φ (.bl true) M'
abbrev plainL (cs : Nat → Addr) : List D := [.exv (cs 0) [("word", .str "a")], .exv (cs 1) [("word", .str "a")], .exv (cs 2) [("word", .str "a")], .exv (cs 3) [("at", .int 1)], .exv (cs 4) [("at", .int 1)], .exv (cs 5) [("word", .str "a")], .exv (cs 6) [("at", .int 1)], .exv (cs 7) [], .exv (cs 8) [("name", .str "a")], .exv (cs 9) [("word", .str "a")]]
theorem plain_at {K : PySem.W.Frag} {cs : Nat → Addr} {SE : Addr} (h : ∀ i, i < 10 → Sort1 K cs SE i (cs i)) {i : Nat} {y : D} (hy : (plainL cs)[i]? = some y) : ∃ fs, y = .exv (cs i) fs ∧ i < 10 ∧ Sort1 K cs SE i (cs i) := by
  match i, hy with
  | 0, hy => exact ⟨_, (Option.some.inj hy).symm, by decide, h 0 (by decide)⟩
  | 1, hy => exact ⟨_, (Option.some.inj hy).symm, by decide, h 1 (by decide)⟩
  | 2, hy => exact ⟨_, (Option.some.inj hy).symm, by decide, h 2 (by decide)⟩
  | 3, hy => exact ⟨_, (Option.some.inj hy).symm, by decide, h 3 (by decide)⟩
  | 4, hy => exact ⟨_, (Option.some.inj hy).symm, by decide, h 4 (by decide)⟩
  | 5, hy => exact ⟨_, (Option.some.inj hy).symm, by decide, h 5 (by decide)⟩
  | 6, hy => exact ⟨_, (Option.some.inj hy).symm, by decide, h 6 (by decide)⟩
  | 7, hy => exact ⟨_, (Option.some.inj hy).symm, by decide, h 7 (by decide)⟩
  | 8, hy => exact ⟨_, (Option.some.inj hy).symm, by decide, h 8 (by decide)⟩
  | 9, hy => exact ⟨_, (Option.some.inj hy).symm, by decide, h 9 (by decide)⟩
  | i + 10, hy => exact absurd hy (by simp)
theorem range_at {j n : Nat} (h : j < n) : (List.range n)[j]? = some j := by
  rw [List.getElem?_eq_getElem (by rw [List.length_range]; exact h), List.getElem_range]
theorem cast_dec {i j : Nat} : D.bl (decide ((i : Int) = (j : Int))) = D.bl (decide (i = j)) := by
  by_cases h : i = j
  · rw [decide_eq_true h, decide_eq_true (by rw [h])]
  · rw [decide_eq_false h, decide_eq_false (by omega)]
theorem bt_KeyError : bootBuiltins "KeyError" = some (.type "KeyError") := by decide +kernel
theorem bt_IndexError : bootBuiltins "IndexError" = some (.type "IndexError") := by decide +kernel
theorem bt_ValueError : bootBuiltins "ValueError" = some (.type "ValueError") := by decide +kernel
theorem shp_bls (f : Nat → Bool) : shp (.lst ((List.range 10).map fun j => D.bl (f j))) = true := rfl
abbrev s_law : Stmt := top 21
theorem sc_law : FnScope ["_law_script", "_law_deal_here", "_law_turn", "_law_thing", "_law_error", "_law_found", "_law_plain", "_law_at", "_law_one", "_law_spot", "_law_row", "_law_name"] ["_law_script"] (defScope s_law) := ⟨rfl, rfl, rfl, by decide +kernel, rfl, by decide +kernel, by decide +kernel⟩
theorem ok_law {f : Addr} {fd : FuncData} (F : FunD K "law" "law" (defArgs s_law) (defBody s_law) (defScope s_law) [] [] f fd) (B : Bf mg) {cs : Nat → Addr} {cR cN SE : Addr} (hX : ErA K cs cR cN) (hSrt : ∀ i, i < 10 → Sort1 K cs SE i (cs i)) (hE0 : HasE0 K mg (cs 7) "InvalidCommand") (hmSE : mg "SightError" = some (.ref SE)) (hmKeyError : mg "KeyError" = none) (hmIndexError : mg "IndexError" = none) (hmValueError : mg "ValueError" = none)
    (hRN : PySem.W.kitOne K (.ref cR) (.type "IndexError") = some true ∧ PySem.W.kitOne K (.ref cN) (.type "KeyError") = some true ∧ PySem.W.kitOne K (.ref cR) (.ref SE) = some false ∧ PySem.W.kitOne K (.ref cR) (.type "KeyError") = some false ∧ PySem.W.kitOne K (.ref cN) (.ref SE) = some false ∧ PySem.W.kitOne K (.ref cN) (.type "IndexError") = some false)
    (hDeal : HasFn P w K mg base 1 "_law_deal" S_deal) (hAny4 : HasFn P w K mg base 7 "_law_any" (S_any 4)) (hAny2 : HasFn P w K mg base 7 "_law_any" (S_any 2)) (hKept : HasFn P w K mg base 3 "_law_kept" S_kept) (hSorts : HasFn P w K mg base 2 "_law_sorts" (S_sorts K cs SE)) (hE_InvalidSite : HasEx P w K mg base 1 (cs 0) "InvalidSite" "word") (hE_InvalidRow : HasEx P w K mg base 1 (cs 1) "InvalidRow" "word") (hE_InvalidPlan : HasEx P w K mg base 1 (cs 2) "InvalidPlan" "word") (hE_InvalidText : HasEx P w K mg base 1 (cs 3) "InvalidText" "at") (hE_InvalidRun : HasEx P w K mg base 1 (cs 4) "InvalidRun" "at") (hE_InvalidSpan : HasEx P w K mg base 1 (cs 5) "InvalidSpan" "word") (hE_InvalidCells : HasEx P w K mg base 1 (cs 6) "InvalidCells" "at") (hE_Mismatch : HasEx P w K mg base 1 (cs 8) "Mismatch" "name") (hE_Refused : HasEx P w K mg base 1 (cs 9) "Refused" "word") (hE_NoRow : HasExG P w K mg base 1 cR "NoRow" "at") (hE_NoName : HasExG P w K mg base 1 cN "NoName" "name") : RunG P w K mg base 13 f fd ["_law_script"] (spOf K S_law) := by
  refine fn_dataG (k := 12) F sc_law (fun ds M Φ h => ?_) (fun cdv A outer s H E ds M Φ hgd hr h => ?_)
  · obtain ⟨ns, rfl, hlen, rfl, qq⟩ := h
    all_goals rfl
  · obtain ⟨ns, rfl, hlen, rfl, qq⟩ := h
    skip
    refine ws_set 1 sc_law.nd ?_
    refine wcf hDeal (hr.mono (by decide)) ?_
    refine wa_cons ?_
    refine wv 0 rfl ?_
    refine wa_nil ?_
    refine ⟨ns, rfl, hlen, fun l l2 gs m hg => ?_⟩
    refine ws_cons (w1_forR1 (by passes_own) rfl rfl B.range ?_)
    refine wa_cons ?_
    refine we_int ?_
    refine wa_nil ?_
    refine ⟨fun _ Γ M => Γ = [some (.lst (ns.map .int)), some (.adr l), none, none, none, none, none, none, none, none, none, none] ∧ ∃ gs m, Good gs m ∧ M = dl l l2 gs m, _, rfl, by decide, by decide, ⟨rfl, gs, m, hg, rfl⟩, ?_, ?_⟩
    · rintro i Γ' M' hi ⟨rfl, gs, m, hg, rfl⟩
      refine gd_name 2 sc_law.nd ?_
      refine ws_set 3 sc_law.nd ?_
      refine we_lstO ?_
      refine wa_cons ?_
      refine wcf hAny4 (hr.mono (by decide)) ?_
      refine wa_cons ?_
      refine wv 1 rfl ?_
      refine wa_cons ?_
      refine we_int ?_
      refine wa_nil ?_
      refine ⟨l, l2, 0, rfl, dl_at hg, fun a1 gs1 m1 ha1 hg1 => ?_⟩
      rw [dl_put]
      refine wa_nil ?_
      refine ⟨(by walk_at "size"), fun l_1 => ?_⟩
      obtain ⟨l_t, hlt⟩ : ∃ z, z = l_1 := ⟨_, rfl⟩
      rw [← hlt]
      refine ws_wk (Γ' := [some (.lst (ns.map .int)), some (.adr l), none, some (.adr l_t), none, none, none, none, none, none, none, none]) (M' := (l_t, .lst [a1]) :: dl l l2 gs1 m1) (by repeat (first | exact wkE | refine wkS ?_ | refine wkN ?_)) (List.Sublist.refl _) ?_
      refine ws_set 4 sc_law.nd ?_
      refine we_mkE hE_InvalidSite (hr.mono (by decide)) ?_
      refine wa_cons ?_
      refine wv 3 rfl ?_
      refine wa_nil ?_
      refine ⟨_, rfl, ?_⟩
      refine ws_wk (Γ' := [some (.lst (ns.map .int)), some (.adr l), none, some (.adr l_t), some (.exv (cs 0) [("word", .adr l_t)]), none, none, none, none, none, none, none]) (M' := (l_t, .lst [a1]) :: dl l l2 gs1 m1) (by repeat (first | exact wkE | refine wkS ?_ | refine wkN ?_)) (List.Sublist.refl _) ?_
      refine ws_expr ?_
      refine we_append ?_
      refine wv 3 rfl ?_
      refine ⟨_, 0, _, rfl, rfl, ?_⟩
      refine wcf hAny2 (hr.mono (by decide)) ?_
      refine wa_cons ?_
      refine wv 1 rfl ?_
      refine wa_cons ?_
      refine we_int ?_
      refine wa_nil ?_
      refine ⟨l, l2, 1, rfl, deal_cons (dl_at hg1), fun a2 gs2 m2 ha2 hg2 => ?_⟩
      rw [put2_cons, dl_put]
      refine ⟨0, _, rfl, of_decide_eq_true rfl, ?_⟩
      have hs2 := two_sm ha1 ha2
      refine ws_wk (Γ' := [some (.lst (ns.map .int)), some (.adr l), none, some (.adr l_t), some (.exv (cs 0) [("word", .adr l_t)]), none, none, none, none, none, none, none]) (M' := (l_t, .lst [a1, a2]) :: dl l l2 gs2 m2) (by repeat (first | exact wkE | refine wkS ?_ | refine wkN ?_)) (List.Sublist.refl _) ?_
      refine ws_if ?_
      refine wt_bool ?_
      refine ww_or ?_
      refine wt_cmp ?_ (nomark _)
      refine we_frz ?_
      refine we_mapL (own := [("_law_found", 5)]) sc_law.nd (tg_name (j := 5) (by decide)) ?_ (blkOk_by (N := ["_law_script", "_law_deal_here", "_law_turn", "_law_thing", "_law_error", "_law_found", "_law_plain", "_law_at", "_law_one", "_law_spot", "_law_row", "_law_name"]) (sc := defScope s_law) (by decide +kernel)) (fun _ _ _ _ _ => pg_name (i := 5) sc_law.nd rfl (Or.inl rfl))
      refine wcf hKept (hr.mono (by decide)) ?_
      refine wa_cons ?_
      refine wv 3 rfl ?_
      refine wa_nil ?_
      refine ⟨_, rfl, ?_⟩
      refine ⟨_, (List.replicate 11 (D.adr l_t)), fun d => d, fun _ => false, fun _ => D.int 1, rfl, ⟨(by have h5 : sizeLine = 2 ^ 24 := rfl; rw [List.length_replicate]; omega), fun _ _ => trivial, fun a9 ha9 l9 out s H C9 cl fp => ?_, fun a9 ha9 hp9 l9 out s H C9 cl fp => ?_⟩, fun l9 => ?_⟩
      · refine wts_one ?_
        obtain rfl := List.eq_of_mem_replicate ha9
        refine wt_cmp ?_ (nomark _)
        refine wcB B.repr boot_repr ?_
        refine wa_cons ?_
        refine wv 5 rfl ?_
        refine wa_nil ?_
        refine cd_reprL (xs := [a1, a2]) hgd (.inr ⟨1, _, rfl, rfl⟩) hs2.1 hs2.2.1 (Nat.lt_of_le_of_lt (Nat.add_le_add_left (Nat.add_le_add_right hs2.2.2 2) _) (hr.un' (by decide))) ?_
        refine wcB B.repr boot_repr ?_
        refine wa_cons ?_
        refine wv 3 rfl ?_
        refine wa_nil ?_
        refine cd_reprL (xs := [a1, a2]) hgd (.inr ⟨1, _, rfl, rfl⟩) hs2.1 hs2.2.1 (Nat.lt_of_le_of_lt (Nat.add_le_add_left (Nat.add_le_add_right hs2.2.2 2) _) (hr.un' (by decide))) ?_
        refine od_neS ?_
        rw [decide_eq_true rfl]
        refine ⟨_, rfl, ?_⟩
        exact ⟨rfl, rfl⟩
      · obtain rfl := List.eq_of_mem_replicate ha9
        refine we_int ?_
        exact ⟨rfl, rfl⟩
      refine ⟨l9, _, _, rfl, rfl, ?_⟩
      rw [List.filter_eq_nil_iff.mpr fun _ _ => Bool.false_ne_true]
      refine we_lst ?_
      refine wa_nil ?_
      refine ⟨(by walk_at "size"), ?_⟩
      refine od_neSame hr.units rfl rfl ?_
      refine ⟨_, rfl, ?_⟩
      refine ⟨fun hb => ?_, fun hb => ?_⟩
      · walk_at "dead"
      · walk_at "tidy"
        refine ww_or1 ?_
        refine wt_cmp ?_ (nomark _)
        refine wcB B.repr boot_repr ?_
        refine wa_cons ?_
        refine we_attr ?_ (by rfl)
        refine wv 4 rfl ?_
        refine at_exv hX.x_InvalidSite.xf hX.x_InvalidSite.no lk_here ?_
        refine wa_nil ?_
        refine cd_reprL (xs := [a1, a2]) hgd (.inr ⟨0, _, rfl, rfl⟩) hs2.1 hs2.2.1 (Nat.lt_of_le_of_lt (Nat.add_le_add_left (Nat.add_le_add_right hs2.2.2 2) _) (hr.un' (by decide))) ?_
        refine wcB B.repr boot_repr ?_
        refine wa_cons ?_
        refine wv 3 rfl ?_
        refine wa_nil ?_
        refine cd_reprL (xs := [a1, a2]) hgd (.inr ⟨0, _, rfl, rfl⟩) hs2.1 hs2.2.1 (Nat.lt_of_le_of_lt (Nat.add_le_add_left (Nat.add_le_add_right hs2.2.2 2) _) (hr.un' (by decide))) ?_
        refine od_neS ?_
        rw [decide_eq_true rfl]
        refine ⟨_, rfl, ?_⟩
        refine ⟨fun hb => ?_, fun hb => ?_⟩
        · walk_at "dead"
        · walk_at "tidy"
          refine ws_nil ?_
          refine ws_wk (Γ' := [some (.lst (ns.map .int)), some (.adr l), none, none, none, none, none, none, none, none, none, none]) (M' := dl l l2 gs2 m2) (by repeat (first | exact wkE | refine wkS ?_ | refine wkN ?_)) (.cons _ (List.Sublist.refl _)) ?_
          refine ws_nil ?_
          exact ⟨rfl, _, _, hg2, rfl⟩
    · rintro Γ' M' ⟨rfl, gs, m, hg, rfl⟩
      refine ws_set 6 sc_law.nd ?_
      refine we_lstO ?_
      refine wa_cons ?_
      refine we_mkE hE_InvalidSite (hr.mono (by decide)) ?_
      refine wa_cons ?_
      refine we_str ?_
      refine wa_nil ?_
      refine ⟨_, rfl, ?_⟩
      refine wa_cons ?_
      refine we_mkE hE_InvalidRow (hr.mono (by decide)) ?_
      refine wa_cons ?_
      refine we_str ?_
      refine wa_nil ?_
      refine ⟨_, rfl, ?_⟩
      refine wa_cons ?_
      refine we_mkE hE_InvalidPlan (hr.mono (by decide)) ?_
      refine wa_cons ?_
      refine we_str ?_
      refine wa_nil ?_
      refine ⟨_, rfl, ?_⟩
      refine wa_cons ?_
      refine we_mkE hE_InvalidText (hr.mono (by decide)) ?_
      refine wa_cons ?_
      refine we_int ?_
      refine wa_nil ?_
      refine ⟨_, rfl, ?_⟩
      refine wa_cons ?_
      refine we_mkE hE_InvalidRun (hr.mono (by decide)) ?_
      refine wa_cons ?_
      refine we_int ?_
      refine wa_nil ?_
      refine ⟨_, rfl, ?_⟩
      refine wa_cons ?_
      refine we_mkE hE_InvalidSpan (hr.mono (by decide)) ?_
      refine wa_cons ?_
      refine we_str ?_
      refine wa_nil ?_
      refine ⟨_, rfl, ?_⟩
      refine wa_nil ?_
      refine ⟨(by walk_at "size"), fun l_2 => ?_⟩
      refine ws_expr ?_
      refine we_extend ?_
      refine wv 6 rfl ?_
      refine ⟨_, 0, _, rfl, rfl, ?_⟩
      refine we_lstO ?_
      refine wa_cons ?_
      refine we_mkE hE_InvalidCells (hr.mono (by decide)) ?_
      refine wa_cons ?_
      refine we_int ?_
      refine wa_nil ?_
      refine ⟨_, rfl, ?_⟩
      refine wa_cons ?_
      refine we_mkE0 hE0 ?_
      refine wa_cons ?_
      refine we_mkE hE_Mismatch (hr.mono (by decide)) ?_
      refine wa_cons ?_
      refine we_str ?_
      refine wa_nil ?_
      refine ⟨_, rfl, ?_⟩
      refine wa_cons ?_
      refine we_mkE hE_Refused (hr.mono (by decide)) ?_
      refine wa_cons ?_
      refine we_str ?_
      refine wa_nil ?_
      refine ⟨_, rfl, ?_⟩
      refine wa_nil ?_
      refine ⟨(by walk_at "size"), fun l_3 => ?_⟩
      refine ⟨1, 0, _, _, _, rfl, rfl, rfl, of_decide_eq_true rfl, ?_⟩
      obtain ⟨l_p, hlp⟩ : ∃ z, z = l_2 := ⟨_, rfl⟩
      rw [← hlp]
      refine ws_wk (Γ' := [some (.lst (ns.map .int)), some (.adr l), none, none, none, none, some (.adr l_p), none, none, none, none, none]) (M' := (l_p, .lst (plainL cs)) :: dl l l2 gs m) (by repeat (first | exact wkE | refine wkS ?_ | refine wkN ?_)) (.cons _ (List.Sublist.refl _)) ?_
      refine ws_freeze (i := 6) rfl ?_
      refine ws_wk (Γ' := [some (.lst (ns.map .int)), some (.adr l), none, none, none, none, some (.lst (plainL cs)), none, none, none, none, none]) (M' := dl l l2 gs m) (by repeat (first | exact wkE | refine wkS ?_ | refine wkN ?_)) (List.Sublist.refl _) ?_
      refine ws_cons (w1_forEL (by passes_own) rfl rfl B.enum ?_)
      refine wa_cons ?_
      refine wv 6 rfl ?_
      refine wa_nil ?_
      refine ⟨fun _ Γ M => Γ = [some (.lst (ns.map .int)), some (.adr l), none, none, none, none, some (.lst (plainL cs)), none, none, none, none, none] ∧ M = dl l l2 gs m, _, rfl, ⟨rfl, rfl⟩, ?_, ?_⟩
      · rintro i y Γ' M' hy ⟨rfl, rfl⟩
        obtain ⟨fs9, rfl, hi9, hs9⟩ := plain_at hSrt hy
        obtain ⟨f9, T9⟩ := hs9.x
        refine gd_tup rfl ?_ rfl
        refine gds_cons ?_
        refine gd_name 7 sc_law.nd ?_
        refine gds_cons ?_
        refine gd_name 8 sc_law.nd ?_
        refine gds_nil ?_
        refine ws_if ?_
        refine wt_bool ?_
        refine ww_or ?_
        refine wt_cmp ?_ (nomark _)
        refine wcf hSorts (hr.mono (by decide)) ?_
        refine wa_cons ?_
        refine wv 8 rfl ?_
        refine wa_nil ?_
        refine ⟨_, fs9, i, rfl, hs9, ?_⟩
        refine we_frz ?_
        refine we_lcR1 (own := [("_law_spot", 9)]) (j := 9) sc_law.nd rfl B.range ?_ (by decide) (blkOk_by (N := ["_law_script", "_law_deal_here", "_law_turn", "_law_thing", "_law_error", "_law_found", "_law_plain", "_law_at", "_law_one", "_law_spot", "_law_row", "_law_name"]) (sc := defScope s_law) (by decide +kernel)) rfl (fun _ _ _ _ _ => pg_name (i := 9) sc_law.nd rfl (Or.inl rfl)) (by intro _; rfl)
        refine wa_cons ?_
        refine we_int ?_
        refine wa_nil ?_
        refine ⟨fun j9 out M' => out = ((List.range 10).take j9).map (fun j => D.bl (decide (i = j))) ∧ M' = dl l l2 gs m, _, rfl, by decide, by decide, ⟨rfl, rfl⟩, ?_, ?_⟩
        · rintro j9 l9 out M' hj ⟨rfl, rfl⟩ s H C cl fp
          refine wts_nil ⟨fun _ s H C cl fp => ?_, fun z => by cases z⟩
          refine we_cmp ?_ (nomark _)
          refine wv 7 rfl ?_
          refine wv 9 rfl ?_
          refine od_eq ?_
          exact ⟨_, rfl, by rw [List.length_map, List.length_take, List.length_range]; have he : sizeLine = 2 ^ 24 := rfl; omega, by rw [take_1 (range_at (n := 10) (by omega)), List.map_append, List.map_cons, List.map_nil, cast_dec], rfl⟩
        rintro l9 out M' ⟨rfl, rfl⟩
        refine ⟨l9, _, _, rfl, rfl, ?_⟩
        refine od_neSame hr.units rfl (shp_bls _) ?_
        refine ⟨_, rfl, ?_⟩
        refine ⟨fun hb => ?_, fun hb => ?_⟩
        · walk_at "dead"
        · walk_at "tidy"
          refine ww_or1 ?_
          refine wt_not ?_
          refine wt_val ?_ (by intro _; rfl)
          refine wcB B.isi boot_isinstance ?_
          refine wa_cons ?_
          refine wv 8 rfl ?_
          refine wa_cons ?_
          refine wgl hmSE ?_
          refine wa_nil ?_
          refine cd_isV T9 cls_adr hs9.se ?_
          walk_at "truth"
          refine ⟨fun hb => ?_, fun hb => ?_⟩
          · walk_at "dead"
          · walk_at "tidy"
            refine ws_nil ?_
            refine ws_if ?_
            refine wt_bool ?_
            refine ww_or ?_
            refine wt_not ?_
            refine wt_val ?_ (by intro _; rfl)
            refine wcB B.isi boot_isinstance ?_
            refine wa_cons ?_
            refine wv 8 rfl ?_
            refine wa_cons ?_
            refine wbt hmValueError bt_ValueError ?_
            refine wa_nil ?_
            refine cd_isV T9 cls_ty hs9.ve ?_
            walk_at "truth"
            refine ⟨fun hb => ?_, fun hb => ?_⟩
            · walk_at "dead"
            · walk_at "tidy"
              refine ww_or1 ?_
              refine wt_val ?_ (by intro _; rfl)
              refine wcB B.isi boot_isinstance ?_
              refine wa_cons ?_
              refine wv 8 rfl ?_
              refine wa_cons ?_
              refine we_tup ?_
              refine wa_cons ?_
              refine wbt hmKeyError bt_KeyError ?_
              refine wa_cons ?_
              refine wbt hmIndexError bt_IndexError ?_
              refine wa_nil ?_
              refine ⟨(by walk_at "size"), ?_⟩
              refine wa_nil ?_
              refine cd_isV2 T9 clv_ty clv_ty hs9.ke hs9.ie ?_
              walk_at "truth"
              refine ⟨fun hb => ?_, fun hb => ?_⟩
              · walk_at "dead"
              · walk_at "tidy"
                refine ws_nil ?_
                refine ws_wk (Γ' := [some (.lst (ns.map .int)), some (.adr l), none, none, none, none, some (.lst (plainL cs)), none, none, none, none, none]) (M' := dl l l2 gs m) (by repeat (first | exact wkE | refine wkS ?_ | refine wkN ?_)) (List.Sublist.refl _) ?_
                refine ws_nil ?_
                exact ⟨rfl, rfl⟩
      · rintro Γ' M' ⟨rfl, rfl⟩
        refine ws_par 10 11 sc_law.nd ?_
        refine wa_cons ?_
        refine we_mkEG hE_NoRow (hr.mono (by decide)) ?_
        refine wa_cons ?_
        refine we_int ?_
        refine wa_nil ?_
        refine ⟨_, rfl, ?_⟩
        refine wa_cons ?_
        refine we_mkEG hE_NoName (hr.mono (by decide)) ?_
        refine wa_cons ?_
        refine we_str ?_
        refine wa_nil ?_
        refine ⟨_, rfl, ?_⟩
        refine wa_nil ?_
        refine ⟨_, _, rfl, ?_⟩
        refine ws_if ?_
        refine wt_bool ?_
        refine ww_or ?_
        refine wt_not ?_
        refine wt_val ?_ (by intro _; rfl)
        refine wcB B.isi boot_isinstance ?_
        refine wa_cons ?_
        refine wv 10 rfl ?_
        refine wa_cons ?_
        refine wbt hmIndexError bt_IndexError ?_
        refine wa_nil ?_
        refine cd_isV hX.x_NoRow cls_ty hRN.1 ?_
        walk_at "truth"
        refine ⟨fun hb => ?_, fun hb => ?_⟩
        · walk_at "dead"
        · walk_at "tidy"
          refine ww_or1 ?_
          refine wt_not ?_
          refine wt_val ?_ (by intro _; rfl)
          refine wcB B.isi boot_isinstance ?_
          refine wa_cons ?_
          refine wv 11 rfl ?_
          refine wa_cons ?_
          refine wbt hmKeyError bt_KeyError ?_
          refine wa_nil ?_
          refine cd_isV hX.x_NoName cls_ty hRN.2.1 ?_
          walk_at "truth"
          refine ⟨fun hb => ?_, fun hb => ?_⟩
          · walk_at "dead"
          · walk_at "tidy"
            refine ws_nil ?_
            refine ws_ret ?_
            refine we_and ?_
            refine wnotv ?_
            refine wcB B.isi boot_isinstance ?_
            refine wa_cons ?_
            refine wv 10 rfl ?_
            refine wa_cons ?_
            refine we_tup ?_
            refine wa_cons ?_
            refine wgl hmSE ?_
            refine wa_cons ?_
            refine wbt hmKeyError bt_KeyError ?_
            refine wa_nil ?_
            refine ⟨(by walk_at "size"), ?_⟩
            refine wa_nil ?_
            refine cd_isV2 hX.x_NoRow clv_adr clv_ty hRN.2.2.1 hRN.2.2.2.1 ?_
            walk_at "truth"
            refine ⟨_, rfl, fun hb => ?_, fun hb => ?_⟩
            · walk_at "tidy"
              refine we_one ?_
              refine wnotv ?_
              refine wcB B.isi boot_isinstance ?_
              refine wa_cons ?_
              refine wv 11 rfl ?_
              refine wa_cons ?_
              refine we_tup ?_
              refine wa_cons ?_
              refine wgl hmSE ?_
              refine wa_cons ?_
              refine wbt hmIndexError bt_IndexError ?_
              refine wa_nil ?_
              refine ⟨(by walk_at "size"), ?_⟩
              refine wa_nil ?_
              refine cd_isV2 hX.x_NoName clv_adr clv_ty hRN.2.2.2.2.1 hRN.2.2.2.2.2 ?_
              walk_at "truth"
              exact qq _
            · walk_at "dead"
end
end Sl57
set_option Elab.async false
set_option linter.all false
set_option maxRecDepth 100000
set_option maxHeartbeats 0
namespace Sl57
open PySem PySem.Spec PyProof.Rows L2 Dt
theorem law_start {K : Fg} {H : Hp} {a : Addr} {ns : List Int} (hl : ns.length ≤ 63) (hS : SqL K H a (ns.map V.int)) : spOf K S_law [.ref a] H (fun v _ => v = .bl true) fun _ _ _ => False :=
  ⟨H, [], [.lst (ns.map .int)], fun d _ => d = .bl true, .cons (.lst hS (IsDs.ints (K := K) (P := H) ns).1 (IsDs.ints (K := K) (P := H) ns).2) .nil, ⟨Same.refl H, List.nodup_nil, fun _ _ h => by cases h⟩, ⟨ns, rfl, hl, rfl, fun _ => rfl⟩, fun v H' ⟨d, M', P', e, _, _, i⟩ => by
    subst e
    cases i
    rfl⟩
theorem facts {P : Program} {w : World} {K : Fg} {h : Heap} {mg : Str → Option Value} {f : Addr} (hP : P = Pg) (X : K.In h) (G : h.Ns mainGlobals mg) (hfa : mg ("law" : Str) = some (.ref f)) (cq : ToldQ fa fn fx ex K) :
    ∃ fd : FuncData, (∀ (s : Shared) (v : Value), BindsTo s fd ⟨[v], []⟩ [("_law_script", v)]) ∧ ∀ base : Heap, K.In base → base.Ns mainGlobals mg → RunG P w K mg base 13 f fd ["_law_script"] (spOf K S_law) := by
  have c := cq.told
  have B : Bf mg := ⟨He.free_ok X G (c.fact (.free "len") (List.mem_of_getElem? (i := 22) rfl)), He.free_ok X G (c.fact (.free "all") (List.mem_of_getElem? (i := 23) rfl)), He.free_ok X G (c.fact (.free "any") (List.mem_of_getElem? (i := 24) rfl)), He.free_ok X G (c.fact (.free "isinstance") (List.mem_of_getElem? (i := 25) rfl)), He.free_ok X G (c.fact (.free "int") (List.mem_of_getElem? (i := 26) rfl)), He.free_ok X G (c.fact (.free "bool") (List.mem_of_getElem? (i := 27) rfl)), He.free_ok X G (c.fact (.free "str") (List.mem_of_getElem? (i := 28) rfl)), He.free_ok X G (c.fact (.free "tuple") (List.mem_of_getElem? (i := 29) rfl)), He.free_ok X G (c.fact (.free "list") (List.mem_of_getElem? (i := 30) rfl)), He.free_ok X G (c.fact (.free "range") (List.mem_of_getElem? (i := 31) rfl)), He.free_ok X G (c.fact (.free "enumerate") (List.mem_of_getElem? (i := 32) rfl)), He.free_ok X G (c.fact (.free "zip") (List.mem_of_getElem? (i := 33) rfl)), He.free_ok X G (c.fact (.free "abs") (List.mem_of_getElem? (i := 34) rfl)), He.free_ok X G (c.fact (.free "max") (List.mem_of_getElem? (i := 35) rfl)), He.free_ok X G (c.fact (.free "min") (List.mem_of_getElem? (i := 36) rfl)), He.free_ok X G (c.fact (.free "sum") (List.mem_of_getElem? (i := 37) rfl)), He.free_ok X G (c.fact (.free "sorted") (List.mem_of_getElem? (i := 38) rfl)), He.free_ok X G (c.fact (.free "repr") (List.mem_of_getElem? (i := 39) rfl)), He.free_ok X G (c.fact (.free "set") (List.mem_of_getElem? (i := 40) rfl))⟩
  obtain ⟨fd_Ldeal, F0_Ldeal⟩ := c.defn _ (List.mem_of_getElem? (i := 0) rfl)
  have F_Ldeal : FunD K "_law_deal" "_law_deal" (defArgs s_Ldeal) (defBody s_Ldeal) (defScope s_Ldeal) [] [] (locG "_law_deal" K) fd_Ldeal := F0_Ldeal
  have b_Ldeal := FunD.bindsN (ps := ["_law_script"]) F_Ldeal fun _ _ _ _ _ _ us hl => match us, hl with | [_], _ => rfl
  obtain ⟨fd_Ldraw, F0_Ldraw⟩ := c.defn _ (List.mem_of_getElem? (i := 1) rfl)
  have F_Ldraw : FunD K "_law_draw" "_law_draw" (defArgs s_Ldraw) (defBody s_Ldraw) (defScope s_Ldraw) [] [] (locG "_law_draw" K) fd_Ldraw := F0_Ldraw
  have b_Ldraw := FunD.bindsN (ps := ["_law_deal_here", "_law_many"]) F_Ldraw fun _ _ _ _ _ _ us hl => match us, hl with | [_, _], _ => rfl
  obtain ⟨fd_Lpick, F0_Lpick⟩ := c.defn _ (List.mem_of_getElem? (i := 2) rfl)
  have F_Lpick : FunD K "_law_pick" "_law_pick" (defArgs s_Lpick) (defBody s_Lpick) (defScope s_Lpick) [] [] (locG "_law_pick" K) fd_Lpick := F0_Lpick
  have b_Lpick := FunD.bindsN (ps := ["_law_deal_here", "_law_some"]) F_Lpick fun _ _ _ _ _ _ us hl => match us, hl with | [_, _], _ => rfl
  obtain ⟨fd_Lany, F0_Lany⟩ := c.defn _ (List.mem_of_getElem? (i := 3) rfl)
  have F_Lany : FunD K "_law_any" "_law_any" (defArgs s_Lany) (defBody s_Lany) (defScope s_Lany) [] [] (locG "_law_any" K) fd_Lany := F0_Lany
  have b_Lany := FunD.bindsN (ps := ["_law_deal_here", "_law_deep"]) F_Lany fun _ _ _ _ _ _ us hl => match us, hl with | [_, _], _ => rfl
  have hx_InvalidSite : XcC K (He.ga K "InvalidSite") "word" := xcB_ok (ex_11 c.more)
  have hm_InvalidSite : mg "InvalidSite" = some (.ref (He.ga K "InvalidSite")) := He.glo_ok X G (c.fact (.glo "InvalidSite") (List.mem_of_getElem? (i := 4) rfl))
  have hx_InvalidRow : XcC K (He.ga K "InvalidRow") "word" := xcB_ok (ex_12 c.more)
  have hm_InvalidRow : mg "InvalidRow" = some (.ref (He.ga K "InvalidRow")) := He.glo_ok X G (c.fact (.glo "InvalidRow") (List.mem_of_getElem? (i := 5) rfl))
  have hx_InvalidPlan : XcC K (He.ga K "InvalidPlan") "word" := xcB_ok (ex_13 c.more)
  have hm_InvalidPlan : mg "InvalidPlan" = some (.ref (He.ga K "InvalidPlan")) := He.glo_ok X G (c.fact (.glo "InvalidPlan") (List.mem_of_getElem? (i := 6) rfl))
  have hx_InvalidText : XcC K (He.ga K "InvalidText") "at" := xcB_ok (ex_14 c.more)
  have hm_InvalidText : mg "InvalidText" = some (.ref (He.ga K "InvalidText")) := He.glo_ok X G (c.fact (.glo "InvalidText") (List.mem_of_getElem? (i := 7) rfl))
  have hx_InvalidRun : XcC K (He.ga K "InvalidRun") "at" := xcB_ok (ex_15 c.more)
  have hm_InvalidRun : mg "InvalidRun" = some (.ref (He.ga K "InvalidRun")) := He.glo_ok X G (c.fact (.glo "InvalidRun") (List.mem_of_getElem? (i := 8) rfl))
  have hx_InvalidSpan : XcC K (He.ga K "InvalidSpan") "word" := xcB_ok (ex_16 c.more)
  have hm_InvalidSpan : mg "InvalidSpan" = some (.ref (He.ga K "InvalidSpan")) := He.glo_ok X G (c.fact (.glo "InvalidSpan") (List.mem_of_getElem? (i := 9) rfl))
  have hx_InvalidCells : XcC K (He.ga K "InvalidCells") "at" := xcB_ok (ex_17 c.more)
  have hm_InvalidCells : mg "InvalidCells" = some (.ref (He.ga K "InvalidCells")) := He.glo_ok X G (c.fact (.glo "InvalidCells") (List.mem_of_getElem? (i := 10) rfl))
  have hx_InvalidCommand : XcC K (He.ga K "InvalidCommand") "at" := xcB_ok (ex_18 c.more)
  have hm_InvalidCommand : mg "InvalidCommand" = some (.ref (He.ga K "InvalidCommand")) := He.glo_ok X G (c.fact (.glo "InvalidCommand") (List.mem_of_getElem? (i := 15) rfl))
  have hx_Mismatch : XcC K (He.ga K "Mismatch") "name" := xcB_ok (ex_19 c.more)
  have hm_Mismatch : mg "Mismatch" = some (.ref (He.ga K "Mismatch")) := He.glo_ok X G (c.fact (.glo "Mismatch") (List.mem_of_getElem? (i := 11) rfl))
  have hx_Refused : XcC K (He.ga K "Refused") "word" := xcB_ok (ex_20 c.more)
  have hm_Refused : mg "Refused" = some (.ref (He.ga K "Refused")) := He.glo_ok X G (c.fact (.glo "Refused") (List.mem_of_getElem? (i := 12) rfl))
  have hx_NoRow : XcC K (He.ga K "NoRow") "at" := xcB_ok (ex_21 c.more)
  have hm_NoRow : mg "NoRow" = some (.ref (He.ga K "NoRow")) := He.glo_ok X G (c.fact (.glo "NoRow") (List.mem_of_getElem? (i := 13) rfl))
  have hx_NoName : XcC K (He.ga K "NoName") "name" := xcB_ok (ex_22 c.more)
  have hm_NoName : mg "NoName" = some (.ref (He.ga K "NoName")) := He.glo_ok X G (c.fact (.glo "NoName") (List.mem_of_getElem? (i := 14) rfl))
  have hX : ErA K (csH K) (He.ga K "NoRow") (He.ga K "NoName") := ⟨hx_InvalidSite, hx_InvalidRow, hx_InvalidPlan, hx_InvalidText, hx_InvalidRun, hx_InvalidSpan, hx_InvalidCells, hx_Mismatch, hx_Refused, hx_NoRow, hx_NoName⟩
  have hkk : ∀ i : Fin 10, ∀ j : Fin 10, PySem.W.kitOne K (.ref (csH K i.val)) (.ref (csH K j.val)) = some (decide (i.val = j.val)) := of_decide_eq_true (ex_23 c.more)
  have hks : ∀ i : Fin 10, PySem.W.kitOne K (.ref (csH K i.val)) (.ref (He.ga K "SightError")) = some true ∧ PySem.W.kitOne K (.ref (csH K i.val)) (.type "ValueError") = some true ∧ PySem.W.kitOne K (.ref (csH K i.val)) (.type "KeyError") = some false ∧ PySem.W.kitOne K (.ref (csH K i.val)) (.type "IndexError") = some false := of_decide_eq_true (ex_24 c.more)
  have hSrt : ∀ i, i < 10 → Sort1 K (csH K) (He.ga K "SightError") i (csH K i) := fun i hi => ⟨by
    match i, hi with
    | 0, _ => exact ⟨_, hx_InvalidSite⟩
    | 1, _ => exact ⟨_, hx_InvalidRow⟩
    | 2, _ => exact ⟨_, hx_InvalidPlan⟩
    | 3, _ => exact ⟨_, hx_InvalidText⟩
    | 4, _ => exact ⟨_, hx_InvalidRun⟩
    | 5, _ => exact ⟨_, hx_InvalidSpan⟩
    | 6, _ => exact ⟨_, hx_InvalidCells⟩
    | 7, _ => exact ⟨_, hx_InvalidCommand⟩
    | 8, _ => exact ⟨_, hx_Mismatch⟩
    | 9, _ => exact ⟨_, hx_Refused⟩
    | i + 10, hi => omega, fun j hj => hkk ⟨i, hi⟩ ⟨j, hj⟩, (hks ⟨i, hi⟩).1, (hks ⟨i, hi⟩).2.1, (hks ⟨i, hi⟩).2.2.1, (hks ⟨i, hi⟩).2.2.2⟩
  have hE0 : HasE0 K mg (He.ga K "InvalidCommand") "InvalidCommand" := ⟨(ex_25 c.more), (ex_26 c.more), of_decide_eq_true (ex_27 c.more), of_decide_eq_true (ex_28 c.more), hm_InvalidCommand⟩
  have hmSE : mg "SightError" = some (.ref (He.ga K "SightError")) := He.glo_ok X G (c.fact (.glo "SightError") (List.mem_of_getElem? (i := 16) rfl))
  have hf_KeyError : mg "KeyError" = none := He.free_ok X G (c.fact (.free "KeyError") (List.mem_of_getElem? (i := 17) rfl))
  have hf_IndexError : mg "IndexError" = none := He.free_ok X G (c.fact (.free "IndexError") (List.mem_of_getElem? (i := 18) rfl))
  have hf_ValueError : mg "ValueError" = none := He.free_ok X G (c.fact (.free "ValueError") (List.mem_of_getElem? (i := 19) rfl))
  obtain ⟨fd_Lkept, F0_Lkept⟩ := c.defn _ (List.mem_of_getElem? (i := 4) rfl)
  have F_Lkept : FunD K "_law_kept" "_law_kept" (defArgs s_Lkept) (defBody s_Lkept) (defScope s_Lkept) [] [] (locG "_law_kept" K) fd_Lkept := F0_Lkept
  have b_Lkept := FunD.bindsN (ps := ["_law_thing"]) F_Lkept fun _ _ _ _ _ _ us hl => match us, hl with | [_], _ => rfl
  obtain ⟨fd_Lsorts, F0_Lsorts⟩ := c.defn _ (List.mem_of_getElem? (i := 5) rfl)
  have F_Lsorts : FunD K "_law_sorts" "_law_sorts" (defArgs s_Lsorts) (defBody s_Lsorts) (defScope s_Lsorts) [] [] (locG "_law_sorts" K) fd_Lsorts := F0_Lsorts
  have b_Lsorts := FunD.bindsN (ps := ["_law_one"]) F_Lsorts fun _ _ _ _ _ _ us hl => match us, hl with | [_], _ => rfl
  obtain ⟨fd_law, F0_law⟩ := c.defn _ (List.mem_of_getElem? (i := 6) rfl)
  have F_law : FunD K "law" "law" (defArgs s_law) (defBody s_law) (defScope s_law) [] [] (locG "law" K) fd_law := F0_law
  have b_law := FunD.bindsN (ps := ["_law_script"]) F_law fun _ _ _ _ _ _ us hl => match us, hl with | [_], _ => rfl
  have e := hfa.symm.trans (He.glo_ok X G (c.fact (.glo "law") (List.mem_of_getElem? (i := 41) rfl)))
  cases e
  have b := FunD.bindsA (ps := ["_law_script"]) F_law fun _ _ _ _ _ _ us hl => match us, hl with | [_], _ => rfl
  refine ⟨fd_law, fun s v => b s [v] rfl, fun base _ _ => ?_⟩
  have h_Ldeal : HasFn P w K mg base 1 "_law_deal" S_deal := hasFn X G F_Ldeal b_Ldeal (c.fact (.glo "_law_deal") (List.mem_of_getElem? (i := 0) rfl)) (ok_Ldeal F_Ldeal B)
  have h_Ldraw : HasFn P w K mg base 1 "_law_draw" S_draw := hasFn X G F_Ldraw b_Ldraw (c.fact (.glo "_law_draw") (List.mem_of_getElem? (i := 1) rfl)) (ok_Ldraw F_Ldraw B)
  have h_Lpick : HasFn P w K mg base 2 "_law_pick" S_pick := hasFn X G F_Lpick b_Lpick (c.fact (.glo "_law_pick") (List.mem_of_getElem? (i := 2) rfl)) (ok_Lpick F_Lpick B h_Ldraw)
  have h_Lany0 : HasFn P w K mg base 3 "_law_any" (S_any 0) := hasFn X G F_Lany b_Lany (c.fact (.glo "_law_any") (List.mem_of_getElem? (i := 3) rfl)) (ok_Lany0 F_Lany B h_Ldraw h_Lpick)
  have h_Lany1 : HasFn P w K mg base 4 "_law_any" (S_any 1) := hasFn X G F_Lany b_Lany (c.fact (.glo "_law_any") (List.mem_of_getElem? (i := 3) rfl)) (ok_LanyS F_Lany B h_Ldraw h_Lpick 0 h_Lany0)
  have h_Lany2 : HasFn P w K mg base 5 "_law_any" (S_any 2) := hasFn X G F_Lany b_Lany (c.fact (.glo "_law_any") (List.mem_of_getElem? (i := 3) rfl)) (ok_LanyS F_Lany B h_Ldraw h_Lpick 1 h_Lany1)
  have h_Lany3 : HasFn P w K mg base 6 "_law_any" (S_any 3) := hasFn X G F_Lany b_Lany (c.fact (.glo "_law_any") (List.mem_of_getElem? (i := 3) rfl)) (ok_LanyS F_Lany B h_Ldraw h_Lpick 2 h_Lany2)
  have h_Lany4 : HasFn P w K mg base 7 "_law_any" (S_any 4) := hasFn X G F_Lany b_Lany (c.fact (.glo "_law_any") (List.mem_of_getElem? (i := 3) rfl)) (ok_LanyS F_Lany B h_Ldraw h_Lpick 3 h_Lany3)
  have h_InvalidSite : HasEx P w K mg base 1 (He.ga K "InvalidSite") "InvalidSite" "word" := hasEx (d := dx_0) X G rfl (cq.defx _ (List.mem_of_getElem? (i := 0) rfl)) (by rw [hP]; exact (ex_0 c.more)) (c.fact (.glo "InvalidSite") (List.mem_of_getElem? (i := 4) rfl)) (by rw [hP]; exact hPt) rfl ⟨rfl, rfl, rfl, rfl, rfl, rfl, rfl, by decide +kernel, by decide +kernel⟩ (by decide) (by decide) (by decide) (by decide) rfl rfl (fun _ => rfl) (fun _ => rfl) (fun _ => rfl) (fun _ _ _ _ _ _ _ us hl => match us, hl with | [_, _], _ => rfl)
  have h_InvalidRow : HasEx P w K mg base 1 (He.ga K "InvalidRow") "InvalidRow" "word" := hasEx (d := dx_1) X G rfl (cq.defx _ (List.mem_of_getElem? (i := 1) rfl)) (by rw [hP]; exact (ex_1 c.more)) (c.fact (.glo "InvalidRow") (List.mem_of_getElem? (i := 5) rfl)) (by rw [hP]; exact hPt) rfl ⟨rfl, rfl, rfl, rfl, rfl, rfl, rfl, by decide +kernel, by decide +kernel⟩ (by decide) (by decide) (by decide) (by decide) rfl rfl (fun _ => rfl) (fun _ => rfl) (fun _ => rfl) (fun _ _ _ _ _ _ _ us hl => match us, hl with | [_, _], _ => rfl)
  have h_InvalidPlan : HasEx P w K mg base 1 (He.ga K "InvalidPlan") "InvalidPlan" "word" := hasEx (d := dx_2) X G rfl (cq.defx _ (List.mem_of_getElem? (i := 2) rfl)) (by rw [hP]; exact (ex_2 c.more)) (c.fact (.glo "InvalidPlan") (List.mem_of_getElem? (i := 6) rfl)) (by rw [hP]; exact hPt) rfl ⟨rfl, rfl, rfl, rfl, rfl, rfl, rfl, by decide +kernel, by decide +kernel⟩ (by decide) (by decide) (by decide) (by decide) rfl rfl (fun _ => rfl) (fun _ => rfl) (fun _ => rfl) (fun _ _ _ _ _ _ _ us hl => match us, hl with | [_, _], _ => rfl)
  have h_InvalidText : HasEx P w K mg base 1 (He.ga K "InvalidText") "InvalidText" "at" := hasEx (d := dx_3) X G rfl (cq.defx _ (List.mem_of_getElem? (i := 3) rfl)) (by rw [hP]; exact (ex_3 c.more)) (c.fact (.glo "InvalidText") (List.mem_of_getElem? (i := 7) rfl)) (by rw [hP]; exact hPt) rfl ⟨rfl, rfl, rfl, rfl, rfl, rfl, rfl, by decide +kernel, by decide +kernel⟩ (by decide) (by decide) (by decide) (by decide) rfl rfl (fun _ => rfl) (fun _ => rfl) (fun _ => rfl) (fun _ _ _ _ _ _ _ us hl => match us, hl with | [_, _], _ => rfl)
  have h_InvalidRun : HasEx P w K mg base 1 (He.ga K "InvalidRun") "InvalidRun" "at" := hasEx (d := dx_4) X G rfl (cq.defx _ (List.mem_of_getElem? (i := 4) rfl)) (by rw [hP]; exact (ex_4 c.more)) (c.fact (.glo "InvalidRun") (List.mem_of_getElem? (i := 8) rfl)) (by rw [hP]; exact hPt) rfl ⟨rfl, rfl, rfl, rfl, rfl, rfl, rfl, by decide +kernel, by decide +kernel⟩ (by decide) (by decide) (by decide) (by decide) rfl rfl (fun _ => rfl) (fun _ => rfl) (fun _ => rfl) (fun _ _ _ _ _ _ _ us hl => match us, hl with | [_, _], _ => rfl)
  have h_InvalidSpan : HasEx P w K mg base 1 (He.ga K "InvalidSpan") "InvalidSpan" "word" := hasEx (d := dx_5) X G rfl (cq.defx _ (List.mem_of_getElem? (i := 5) rfl)) (by rw [hP]; exact (ex_5 c.more)) (c.fact (.glo "InvalidSpan") (List.mem_of_getElem? (i := 9) rfl)) (by rw [hP]; exact hPt) rfl ⟨rfl, rfl, rfl, rfl, rfl, rfl, rfl, by decide +kernel, by decide +kernel⟩ (by decide) (by decide) (by decide) (by decide) rfl rfl (fun _ => rfl) (fun _ => rfl) (fun _ => rfl) (fun _ _ _ _ _ _ _ us hl => match us, hl with | [_, _], _ => rfl)
  have h_InvalidCells : HasEx P w K mg base 1 (He.ga K "InvalidCells") "InvalidCells" "at" := hasEx (d := dx_6) X G rfl (cq.defx _ (List.mem_of_getElem? (i := 6) rfl)) (by rw [hP]; exact (ex_6 c.more)) (c.fact (.glo "InvalidCells") (List.mem_of_getElem? (i := 10) rfl)) (by rw [hP]; exact hPt) rfl ⟨rfl, rfl, rfl, rfl, rfl, rfl, rfl, by decide +kernel, by decide +kernel⟩ (by decide) (by decide) (by decide) (by decide) rfl rfl (fun _ => rfl) (fun _ => rfl) (fun _ => rfl) (fun _ _ _ _ _ _ _ us hl => match us, hl with | [_, _], _ => rfl)
  have h_Mismatch : HasEx P w K mg base 1 (He.ga K "Mismatch") "Mismatch" "name" := hasEx (d := dx_7) X G rfl (cq.defx _ (List.mem_of_getElem? (i := 7) rfl)) (by rw [hP]; exact (ex_7 c.more)) (c.fact (.glo "Mismatch") (List.mem_of_getElem? (i := 11) rfl)) (by rw [hP]; exact hPt) rfl ⟨rfl, rfl, rfl, rfl, rfl, rfl, rfl, by decide +kernel, by decide +kernel⟩ (by decide) (by decide) (by decide) (by decide) rfl rfl (fun _ => rfl) (fun _ => rfl) (fun _ => rfl) (fun _ _ _ _ _ _ _ us hl => match us, hl with | [_, _], _ => rfl)
  have h_Refused : HasEx P w K mg base 1 (He.ga K "Refused") "Refused" "word" := hasEx (d := dx_8) X G rfl (cq.defx _ (List.mem_of_getElem? (i := 8) rfl)) (by rw [hP]; exact (ex_8 c.more)) (c.fact (.glo "Refused") (List.mem_of_getElem? (i := 12) rfl)) (by rw [hP]; exact hPt) rfl ⟨rfl, rfl, rfl, rfl, rfl, rfl, rfl, by decide +kernel, by decide +kernel⟩ (by decide) (by decide) (by decide) (by decide) rfl rfl (fun _ => rfl) (fun _ => rfl) (fun _ => rfl) (fun _ _ _ _ _ _ _ us hl => match us, hl with | [_, _], _ => rfl)
  have h_NoRow : HasExG P w K mg base 1 (He.ga K "NoRow") "NoRow" "at" := hasExG exb_ie (d := dx_9) X G rfl (cq.defx _ (List.mem_of_getElem? (i := 9) rfl)) (by rw [hP]; exact (ex_9 c.more)) (c.fact (.glo "NoRow") (List.mem_of_getElem? (i := 13) rfl)) (by rw [hP]; exact hPt) rfl ⟨rfl, rfl, rfl, rfl, rfl, rfl, rfl, by decide +kernel, by decide +kernel⟩ (by decide) (by decide) (by decide) (by decide) rfl rfl (fun _ => rfl) (fun _ => rfl) (fun _ => rfl) (fun _ _ _ _ _ _ _ us hl => match us, hl with | [_, _], _ => rfl)
  have h_NoName : HasExG P w K mg base 1 (He.ga K "NoName") "NoName" "name" := hasExG exb_ke (d := dx_10) X G rfl (cq.defx _ (List.mem_of_getElem? (i := 10) rfl)) (by rw [hP]; exact (ex_10 c.more)) (c.fact (.glo "NoName") (List.mem_of_getElem? (i := 14) rfl)) (by rw [hP]; exact hPt) rfl ⟨rfl, rfl, rfl, rfl, rfl, rfl, rfl, by decide +kernel, by decide +kernel⟩ (by decide) (by decide) (by decide) (by decide) rfl rfl (fun _ => rfl) (fun _ => rfl) (fun _ => rfl) (fun _ _ _ _ _ _ _ us hl => match us, hl with | [_, _], _ => rfl)
  have h_Lkept : HasFn P w K mg base 3 "_law_kept" S_kept := hasFn X G F_Lkept b_Lkept (c.fact (.glo "_law_kept") (List.mem_of_getElem? (i := 20) rfl)) (ok_Lkept F_Lkept B (cs := csH K) hX h_InvalidSite h_InvalidRow h_InvalidPlan h_InvalidSpan h_Refused h_InvalidText h_InvalidRun h_InvalidCells h_NoRow h_Mismatch h_NoName)
  have h_Lsorts : HasFn P w K mg base 2 "_law_sorts" (S_sorts K (csH K) (He.ga K "SightError")) := hasFn X G F_Lsorts b_Lsorts (c.fact (.glo "_law_sorts") (List.mem_of_getElem? (i := 21) rfl)) (ok_Lsorts F_Lsorts B (cs := csH K) hm_InvalidSite hm_InvalidRow hm_InvalidPlan hm_InvalidText hm_InvalidRun hm_InvalidSpan hm_InvalidCells hm_InvalidCommand hm_Mismatch hm_Refused)
  exact ok_law F_law B (cs := csH K) hX hSrt hE0 hmSE hf_KeyError hf_IndexError hf_ValueError ⟨of_decide_eq_true (ex_29 c.more), of_decide_eq_true (ex_30 c.more), of_decide_eq_true (ex_31 c.more), of_decide_eq_true (ex_32 c.more), of_decide_eq_true (ex_33 c.more), of_decide_eq_true (ex_34 c.more)⟩ h_Ldeal h_Lany4 (h_Lany2.mono (by decide)) h_Lkept h_Lsorts h_InvalidSite h_InvalidRow h_InvalidPlan h_InvalidText h_InvalidRun h_InvalidSpan h_InvalidCells h_Mismatch h_Refused h_NoRow h_NoName
end Sl57
open PySem PySem.W PySem.Calls PyProof.Rows
theorem PySem.Challenge.cw_slipsights_k01_errors_and_what_they_keep_holds : PySem.Challenge.rw_slipsights_k01_errors_and_what_they_keep.Holds := by
  w_on; o_law
  refine HandSHeadRun.head_any (r := OpenLaw.row PySem.Challenge.rw_slipsights_k01_errors_and_what_they_keep) (q := view (OpenLaw.row PySem.Challenge.rw_slipsights_k01_errors_and_what_they_keep).prog [21]) (H := Sl57.hk) (ob := Sl57.ob) (M := 20000) (loose := Sl57.loose) (d := HandSHeadRun.topDef (OpenLaw.row PySem.Challenge.rw_slipsights_k01_errors_and_what_they_keep).prog 21) (kwd := []) Sl57.ob_eq
    (by kernel_rfl) (fun s => by kernel_rfl) Sl57.run (by kernel_rfl) (by kernel_rfl) (by kernel_rfl) (by rfl) (by first | assumption | decide +kernel) (by decide +kernel) ⟨rfl, rfl, rfl, rfl, rfl, by decide +kernel⟩ ?hw ?hc
  case hw => w_witness2
  case hc =>
    refine Dt.walk_ofG (l := PySem.Challenge.rw_slipsights_k01_errors_and_what_they_keep) (n := 63) (k := 13) (x := "_law_script") rfl (by decide) (by kernel_rfl) ⟨rfl, by decide, by decide⟩ ?F
    intro w mg fa h Y G hmg0
    obtain ⟨K, KX, c⟩ := Y
    have hmg : mg ("law" : PySem.Str) = some (.ref fa) := by
      have e : (HandSHeadRun.topDef (OpenLaw.row PySem.Challenge.rw_slipsights_k01_errors_and_what_they_keep).prog 21).name = ("law" : PySem.Str) := by kernel_rfl
      rw [← e]
      exact hmg0
    obtain ⟨fd, hb, hF⟩ := Sl57.facts (P := (PySem.Challenge.rw_slipsights_k01_errors_and_what_they_keep).prog) (w := w) rfl KX G hmg c
    exact ⟨K, fd, Dt.spOf K Sl57.S_law, KX, hb, fun H a ns hl _ hS => Sl57.law_start hl hS, hF⟩
