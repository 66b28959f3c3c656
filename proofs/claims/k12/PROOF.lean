import PyProof.Rows.All
import Wide.All
import OpenK.AllK
import Wide.FinOn
import HandS.ForMost
import HandS.ExcField
import HandS.Lambda
import HandS.IsInst
import HandS.Flow
import HandS.Wide
import HandS.Defaults
import HandS.Property
import HandS.Style
import HandS.Zip
import HandS.SortInts
import HandS.SlotsOwn
import KE.GoesEnum
import PyProof.InstNe
import HandS.Head0
import HandS.Head1
import HandS.Head2
import HandS.HeadEnd
import HandS.HeadHook1
import HandS.HeadHook2
import HandS.Deep
import HandS.RaiseMore
import HandS.TupAny
import HandS.Strs
import HandS.SetFor
import KE.KExcSuper
import HandS.Exc
import HandS.ExcInit
import HandS.ExcSuper
import HandS.ExcIs
import KE.KExcIs
import HandS.DictComp
import PyProof.DictRoadsH
import PyProof.Rows.TupTab
import HandS.SetBool
import PyProof.SetRoads
import HandS.Iter
import PyProof.Rows.SeqMore
import KE.KCallOwn
import HandS.Text
import HandS.FStr
import PyProof.P3In
import PyProof.ReprRoads
import HandS.Star
import PyProof.ReprLen
import PyProof.StrLawsRepr
import PyProof.EqKinds
import PyProof.Rows.StrInSeq
import HandS.TupLe
import HandS.OwnEq
import HandS.TupMul
import HandS.ClsMeth
import HandS.CallLocal
import HandS.NoneIn
import PyProof.NeKinds
import KE.KExcInit
import PyProof.ExcBaseAll.IndexError
import HandS.Codes
import HandS.TryMany
import KE.IntTextText
import HandS.TryOnly
import HandS.EndTab
import HandS.HeadHook4
import HandS.NestedK
import HandS.Walk
import PySem.Challenge.RW_slipsights_k12_rows_refused
set_option Elab.async false
set_option linter.all false
set_option maxRecDepth 100000
set_option maxHeartbeats 2000000
namespace Dt
open PySem PySem.Spec PyProof.Rows L2
/-- what a value stands for: a tree of data; adr a: the object at a, whatever it is -/
inductive D where
  | non | bl (b : Bool) | int (i : Int) | str (x : Str) | ty (n : String)
  | tup (xs : List D) | lst (xs : List D) | obj (C : Addr) (fs : List (Str × D)) | adr (a : Addr) | dic (ks : List (List Int)) | exc (a dd C : Addr) (fs : List (Str × D)) | exv (C : Addr) (fs : List (Str × D)) | dcs (kvs : List (Str × Str))
abbrev Ex (H H' : Hp) : Prop := Same H H'
/-- the hash of a tuple of numbers -/
def tkh (ks : List Int) : Int := reduceHash (Builtin.Tuple.tupleHashOf (ks.map hashInt))
/-- a dict at a whose keys are tuples of numbers -/
def tdO (a : Addr) (xs : List (List Int × Addr × Value)) : HO := .ext fun h => (a == sysModules) = false ∧ xs.length ≤ sizeLine ∧ (xs.map (·.1)).Nodup ∧ ∃ o es ep, h.get? a = some o ∧ o.ExactDict ∧ o.data = .dict es ep ∧ es.toList = xs.map fun x => (⟨tkh x.1, .ref x.2.1, x.2.2⟩ : DictEntry)
/-- an exception object at a, held as a value: its class, its dict -/
def ExV (cls : Value) (d : Option Addr) (a : Addr) : HO := .ext fun h => ∃ (oe : Obj) (vs : Array Value), h.get? a = some oe ∧ Zc cls d oe ∧ oe.data = .fields vs
/-- a dict of texts by texts -/
def dcO (kvs : List (Str × Str)) : HO := .dK (kvs.map fun kv => (Sum.inr kv.1, V.str kv.2))
inductive IsD (K : PySem.W.Frag) (P : Hp) : V → D → Prop
  | non : IsD K P .non .non
  | bl {b} : IsD K P (.bl b) (.bl b)
  | int {i} : IsD K P (.int i) (.int i)
  | str {x} : IsD K P (.str x) (.str x)
  | ty {n} : IsD K P (.ty n) (.ty n)
  | tup {a xs ds} (h : SqT K P a xs) (hl : xs.length = ds.length) (hi : ∀ (i : Nat) x d, xs[i]? = some x → ds[i]? = some d → IsD K P x d) : IsD K P (.ref a) (.tup ds)
  | lst {a xs ds} (h : SqL K P a xs) (hl : xs.length = ds.length) (hi : ∀ (i : Nat) x d, xs[i]? = some x → ds[i]? = some d → IsD K P x d) : IsD K P (.ref a) (.lst ds)
  | obj {a C dx fs ds} (h : P a = some (.ins C dx fs)) (hl : fs.map (·.1) = ds.map (·.1)) (hi : ∀ (i : Nat) x d, fs[i]? = some x → ds[i]? = some d → IsD K P x.2 d.2) : IsD K P (.ref a) (.obj C ds)
  | adr {a} : IsD K P (.ref a) (.adr a)
  | dic {a xs ks} (h : P a = some (tdO a xs)) (hk : xs.map (·.1) = ks) (hi : ∀ x ∈ xs, SqT K P x.2.1 (x.1.map V.int)) : IsD K P (.ref a) (.dic ks)
  | exc {a dd C fs ds} (h : P dd = some (.xd fs)) (hl : fs.map (·.1) = ds.map (·.1)) (hi : ∀ (i : Nat) x d, fs[i]? = some x → ds[i]? = some d → IsD K P x.2 d.2) : IsD K P (.ref a) (.exc a dd C ds)
  | exv {a dd C fs ds} (h0 : P a = some (ExV (.ref C) (some dd) a)) (h : P dd = some (.xd fs)) (hl : fs.map (·.1) = ds.map (·.1)) (hi : ∀ (i : Nat) x d, fs[i]? = some x → ds[i]? = some d → IsD K P x.2 d.2) : IsD K P (.ref a) (.exv C ds)
  | exn {a C} (h0 : P a = some (ExV (.ref C) none a)) : IsD K P (.ref a) (.exv C [])
  | dcs {a kvs} (h : P a = some (dcO kvs)) : IsD K P (.ref a) (.dcs kvs)
def IsDs (K : PySem.W.Frag) (P : Hp) (xs : List V) (ds : List D) : Prop := xs.length = ds.length ∧ ∀ (i : Nat) x d, xs[i]? = some x → ds[i]? = some d → IsD K P x d
def IsFs (K : PySem.W.Frag) (P : Hp) (fs : List (Str × V)) (ds : List (Str × D)) : Prop := fs.map (·.1) = ds.map (·.1) ∧ ∀ (i : Nat) x d, fs[i]? = some x → ds[i]? = some d → IsD K P x.2 d.2
section
variable {K : PySem.W.Frag} {P P' : Hp}
theorem Same.tupS {a : Addr} {xs : List V} (e : Ex P P') (h : SqT K P a xs) : SqT K P' a xs := by
  rcases h with (h | ⟨o, h⟩) | h
  · exact .inl (.inl (e _ _ h))
  · exact .inl (.inr ⟨o, e _ _ h⟩)
  · exact .inr h
theorem IsD.mono (e : Ex P P') {v : V} {d : D} (h : IsD K P v d) : IsD K P' v d := by
  induction h with
  | non => exact .non
  | bl => exact .bl
  | int => exact .int
  | str => exact .str
  | ty => exact .ty
  | tup h hl _ ih => exact .tup (Same.tupS e h) hl ih
  | lst h hl _ ih => exact .lst (e.seq h) hl ih
  | obj h hl _ ih => exact .obj (e _ _ h) hl ih
  | adr => exact .adr
  | dic h hk hi => exact .dic (e _ _ h) hk fun x hx => Same.tupS e (hi x hx)
  | exc h hl _ ih => exact .exc (e _ _ h) hl ih
  | exv h0 h hl _ ih => exact .exv (e _ _ h0) (e _ _ h) hl ih
  | exn h0 => exact .exn (e _ _ h0)
  | dcs h => exact .dcs (e _ _ h)
theorem IsDs.mono (e : Ex P P') {xs : List V} {ds : List D} (h : IsDs K P xs ds) : IsDs K P' xs ds := ⟨h.1, fun i x d a b => (h.2 i x d a b).mono e⟩
theorem IsFs.mono (e : Ex P P') {xs : List (Str × V)} {ds : List (Str × D)} (h : IsFs K P xs ds) : IsFs K P' xs ds := ⟨h.1, fun i x d a b => (h.2 i x d a b).mono e⟩
theorem IsDs.nil : IsDs K P [] [] := ⟨rfl, fun i x d h => by simp at h⟩
theorem IsDs.cons {x : V} {d : D} {xs : List V} {ds : List D} (h : IsD K P x d) (t : IsDs K P xs ds) : IsDs K P (x :: xs) (d :: ds) :=
  ⟨by rw [List.length_cons, List.length_cons, t.1], fun i y e a b => by
    cases i with
    | zero =>
      simp only [List.getElem?_cons_zero, Option.some.injEq] at a b
      subst a b
      exact h
    | succ i =>
      simp only [List.getElem?_cons_succ] at a b
      exact t.2 i y e a b⟩
theorem IsDs.uncons {xs : List V} {d : D} {ds : List D} (h : IsDs K P xs (d :: ds)) : ∃ x r, xs = x :: r ∧ IsD K P x d ∧ IsDs K P r ds := by
  obtain ⟨hl, hi⟩ := h
  cases xs with
  | nil => simp at hl
  | cons x r => exact ⟨x, r, rfl, hi 0 x d rfl rfl, by simpa using hl, fun i y e a b => hi (i + 1) y e (by simpa using a) (by simpa using b)⟩
theorem IsDs.unnil {xs : List V} (h : IsDs K P xs []) : xs = [] := List.length_eq_zero_iff.mp h.1
theorem IsDs.get {xs : List V} {ds : List D} {i : Nat} {d : D} (h : IsDs K P xs ds) (e : ds[i]? = some d) : ∃ x, xs[i]? = some x ∧ IsD K P x d := by
  obtain ⟨hl, hi⟩ := h
  have hb : i < xs.length := by rw [hl]; exact (List.getElem?_eq_some_iff.mp e).1
  exact ⟨xs[i], List.getElem?_eq_getElem hb, hi i _ d (List.getElem?_eq_getElem hb) e⟩
theorem IsFs.nil : IsFs K P [] [] := ⟨rfl, fun i x d h => by simp at h⟩
theorem IsFs.cons {f : Str} {x : V} {d : D} {xs : List (Str × V)} {ds : List (Str × D)} (h : IsD K P x d) (t : IsFs K P xs ds) : IsFs K P ((f, x) :: xs) ((f, d) :: ds) :=
  ⟨by rw [List.map_cons, List.map_cons, t.1], fun i y e a b => by
    cases i with
    | zero =>
      simp only [List.getElem?_cons_zero, Option.some.injEq] at a b
      subst a b
      exact h
    | succ i =>
      simp only [List.getElem?_cons_succ] at a b
      exact t.2 i y e a b⟩
theorem IsFs.uncons {f : Str} {d : D} {xs : List (Str × V)} {ds : List (Str × D)} (h : IsFs K P xs ((f, d) :: ds)) : ∃ x r, xs = (f, x) :: r ∧ IsD K P x d ∧ IsFs K P r ds := by
  obtain ⟨hl, hi⟩ := h
  cases xs with
  | nil => simp at hl
  | cons x r =>
    obtain ⟨g, x⟩ := x
    simp only [List.map_cons, List.cons.injEq] at hl
    obtain ⟨e, hl⟩ := hl
    subst e
    exact ⟨x, r, rfl, hi 0 (g, x) (g, d) rfl rfl, hl, fun i y e a b => hi (i + 1) y e (by simpa using a) (by simpa using b)⟩
theorem IsFs.unnil {xs : List (Str × V)} (h : IsFs K P xs []) : xs = [] := by
  have e := h.1
  cases xs with
  | nil => rfl
  | cons x r => simp at e
theorem IsFs.lookup {f : Str} {d : D} : ∀ {xs : List (Str × V)} {ds : List (Str × D)}, IsFs K P xs ds → ds.lookup f = some d → ∃ v, xs.lookup f = some v ∧ IsD K P v d
  | xs, [], h, e => by simp at e
  | xs, (g, d') :: ds, h, e => by
    obtain ⟨x, r, rfl, hx, hr⟩ := h.uncons
    by_cases hg : f = g
    · subst hg
      simp only [List.lookup_cons_self, Option.some.injEq] at e
      subst e
      exact ⟨x, by simp, hx⟩
    · have hg' : (f == g) = false := by simpa using hg
      rw [List.lookup_cons, hg'] at e
      obtain ⟨v, h1, h2⟩ := IsFs.lookup hr e
      exact ⟨v, by rw [List.lookup_cons, hg']; exact h1, h2⟩
theorem IsFs.length {xs : List (Str × V)} {ds : List (Str × D)} (h : IsFs K P xs ds) : xs.length = ds.length := by
  have e := congrArg List.length h.1
  rw [List.length_map, List.length_map] at e
  exact e
end
abbrev Sl := List (Option D)
/-- an object of one's own, that may change -/
inductive MO where
  | lst (ds : List D)
  | ins (C : Addr) (fs : List (Str × D))
  | tab (q : Str) (R : Hp)
abbrev Mem := List (Addr × MO)
def MHas (K : PySem.W.Frag) (P H : Hp) (a : Addr) : MO → Prop
  | .lst ds => ∃ xs, H a = some (.lst xs) ∧ IsDs K P xs ds
  | .ins C fs => ∃ dx xs, H a = some (.ins C dx xs) ∧ IsFs K P xs fs
  | .tab q R => Ex R P ∧ ∃ ps, H a = some (.tbl ps) ∧ TriplesOk ps.toList ∧ ∀ (pos : Pos) (cv : Value), codeAmong pos ps.toList = some cv → ∃ c, cv = .ref c ∧ P c = some (LamX.CodeO c q)
structure MOk (K : PySem.W.Frag) (M : Mem) (P H : Hp) : Prop where
  ex : Ex P H
  nd : (M.map (·.1)).Nodup
  at_ : ∀ a o, (a, o) ∈ M → P a = none ∧ MHas K P H a o
  nt : ∀ a ps, P a ≠ some (.tbl ps)
structure SOk (K : PySem.W.Frag) (Γ : Sl) (P : Hp) (σ : L2.St) : Prop where
  len : Γ.length = σ.length
  at_ : ∀ (i : Nat) (d : D), Γ[i]? = some (some d) → ∃ v, σ[i]? = some (some v) ∧ IsD K P v d
section
variable {K : PySem.W.Frag} {M M' : Mem} {P P' H H' : Hp} {Γ : Sl} {σ : L2.St}
theorem MHas.mono {a : Addr} {o : MO} (e : Ex P P') (he : H a = H' a) (h : MHas K P H a o) : MHas K P' H' a o := by
  cases o with
  | lst ds =>
    obtain ⟨xs, h1, h2⟩ := h
    exact ⟨xs, by rw [← he]; exact h1, h2.mono e⟩
  | ins C fs =>
    obtain ⟨dx, xs, h1, h2⟩ := h
    exact ⟨dx, xs, by rw [← he]; exact h1, h2.mono e⟩
  | tab q R =>
    obtain ⟨eR, ps, h1, h2, h3⟩ := h
    exact ⟨eR.trans e, ps, by rw [← he]; exact h1, h2, fun pos cv hc => let ⟨c, e1, e2⟩ := h3 pos cv hc; ⟨c, e1, e _ _ e2⟩⟩
theorem MHas.some {a : Addr} {o : MO} (h : MHas K P H a o) : ∃ u, H a = some u := by
  cases o with
  | lst ds =>
    obtain ⟨xs, h1, h2⟩ := h
    exact ⟨_, h1⟩
  | ins C fs =>
    obtain ⟨dx, xs, h1, h2⟩ := h
    exact ⟨_, h1⟩
  | tab q R =>
    obtain ⟨eR, ps, h1, h2⟩ := h
    exact ⟨_, h1⟩
theorem SOk.mono (e : Ex P P') (h : SOk K Γ P σ) : SOk K Γ P' σ := ⟨h.len, fun i d q => let ⟨v, a, b⟩ := h.at_ i d q; ⟨v, a, b.mono e⟩⟩
theorem upd_nt {P : Hp} {a : Addr} {o : HO} (h : ∀ b ps, P b ≠ some (.tbl ps)) (hn : ∀ ps, o ≠ .tbl ps) : ∀ b ps, upd P a o b ≠ some (.tbl ps) := fun b ps z => by
  by_cases hb : b = a
  · subst hb
    rw [upd_same] at z
    exact hn ps (Option.some.inj z)
  · rw [upd_ne hb] at z
    exact h b ps z
/-- a new object of one's own -/
theorem MOk.own {a : Addr} {o : HO} {m : MO} (h : MOk K M P H) (ha : H a = none) (hm : MHas K P (upd H a o) a m) : MOk K ((a, m) :: M) P (upd H a o) := by
  have hp : P a = none := h.ex.free ha
  refine ⟨fun b u q => ?_, ?_, fun b u q => ?_, h.nt⟩
  · rw [upd_ne (ne_of_none q hp)]
    exact h.ex _ _ q
  · rw [List.map_cons, List.nodup_cons]
    refine ⟨fun hm => ?_, h.nd⟩
    obtain ⟨e, he, e2⟩ := List.mem_map.mp hm
    obtain ⟨w, hw⟩ := (h.at_ e.1 e.2 he).2.some
    rw [e2, ha] at hw
    cases hw
  · rcases List.mem_cons.mp q with e | q
    · cases e
      exact ⟨hp, hm⟩
    · obtain ⟨h1, h2⟩ := h.at_ b u q
      have hb : b ≠ a := fun z => by
        obtain ⟨w, hw⟩ := h2.some
        rw [z, ha] at hw
        cases hw
      exact ⟨h1, h2.mono (Same.refl P) (by rw [upd_ne hb])⟩
theorem MOk.get {k : Nat} {a : Addr} {m : MO} (h : MOk K M P H) (e : M[k]? = some (a, m)) : P a = none ∧ MHas K P H a m := h.at_ a m (List.mem_of_getElem? e)
end
end Dt
set_option Elab.async false
set_option linter.all false
set_option maxRecDepth 100000
set_option maxHeartbeats 2000000
namespace Dt
open PySem PySem.Spec PyProof.Rows L2
def wpT (X : Cx) (e : Expr) : TE := fun σ H Q => ∀ pins s, Inv X pins σ H s → wpAny (model X.prog X.w) X.A (eval e X.env) (EP X pins σ Q) X.xe s
def wpA (X : Cx) (es : List Expr) : TA := fun σ H Q => ∀ pos pins s, Inv X pins σ H s → wpAny (model X.prog X.w) X.A (spliced (backTo pos (starEach es X.env))) (AP X pins σ Q) X.xe s
def wpB (X : Cx) (e : Expr) : TT := fun σ H Q => ∀ pins s, Inv X pins σ H s → wpAny (model X.prog X.w) X.A (isTrue e X.env (eval e X.env)) (TP X pins σ Q) X.xe s
def wpW (X : Cx) (e : Expr) : TT := fun σ H Q => ∀ whole pins s, Inv X pins σ H s → wpAny (model X.prog X.w) X.A (isTrue e X.env whole) (TP X pins σ Q) X.xe s
def wpS (X : Cx) (st : Stmt) : TS := fun D σ H => ∀ pins s, Inv X pins σ H s → wpAny (model X.prog X.w) X.A (exec st X.env) (SP X pins D) X.xe s
def wpSs (X : Cx) (sts : List Stmt) : TS := fun D σ H => ∀ pins s, Inv X pins σ H s → wpAny (model X.prog X.w) X.A (execs sts X.env) (SP X pins D) X.xe s
def opT (X : Cx) (f : Value → Value → Sem Value) : R2 := fun x y H Q => ∀ pins σ s v u, Inv X pins σ H s → RelV x v → RelV y u → wpAny (model X.prog X.w) X.A (f v u) (EP X pins σ Q) X.xe s
def unT (X : Cx) (f : Value → Sem Value) : V → Hp → VK → Prop := fun x H Q => ∀ pins σ s v, Inv X pins σ H s → RelV x v → wpAny (model X.prog X.w) X.A (f v) (EP X pins σ Q) X.xe s
def caT (X : Cx) (f : Value) : List V → Hp → VK → Prop := fun xs H Q => ∀ pins σ s us, Inv X pins σ H s → Vals xs us → wpAny (model X.prog X.w) X.A (call f us) (EP X pins σ Q) X.xe s
def trT (X : Cx) : V → Hp → (Bool → Hp → Prop) → Prop := fun x H Q => ∀ pins σ s v, Inv X pins σ H s → RelV x v → wpAny (model X.prog X.w) X.A (truthy v) (TP X pins σ Q) X.xe s
section
variable {X : Cx} {e : Expr} {es : List Expr} {st : Stmt} {sts : List Stmt} {σ : L2.St} {H : Hp}
theorem opT_of {f : Value → Value → Sem Value} {r : R2} (h : OpR X f r) {x y : V} {Q : VK} (q : r x y H Q) : opT X f x y H Q := fun pins σ s v u I rx ry => h pins s σ H x y v u Q I rx ry q
theorem caT_of {f : Value} {r : List V → Hp → VK → Prop} (h : CallR X f r) {xs : List V} {Q : VK} (q : r xs H Q) : caT X f xs H Q := fun pins σ s us I rx => h pins s σ H xs us Q I rx q
theorem trT_of {r : V → Hp → (Bool → Hp → Prop) → Prop} (h : TruR X r) {x : V} {Q : Bool → Hp → Prop} (q : r x H Q) : trT X x H Q := fun pins σ s v I rx => h pins s σ H x v Q I rx q
theorem wpT.mono {Q Q' : VK} (h : wpT X e σ H Q) (q : ∀ v H', Q v H' → Q' v H') : wpT X e σ H Q' := fun pins s I => thn (h pins s I) fun _ _ ⟨v, H', a, b, c⟩ => ⟨v, H', a, b, q _ _ c⟩
theorem wpA.mono {Q Q' : List V → Hp → Prop} (h : wpA X es σ H Q) (q : ∀ v H', Q v H' → Q' v H') : wpA X es σ H Q' := fun pos pins s I => thn (h pos pins s I) fun _ _ ⟨v, H', a, b, c⟩ => ⟨v, H', a, b, q _ _ c⟩
theorem wpB.mono {Q Q' : Bool → Hp → Prop} (h : wpB X e σ H Q) (q : ∀ v H', Q v H' → Q' v H') : wpB X e σ H Q' := fun pins s I => thn (h pins s I) fun _ _ ⟨H', a, c⟩ => ⟨H', a, q _ _ c⟩
theorem wpW.mono {Q Q' : Bool → Hp → Prop} (h : wpW X e σ H Q) (q : ∀ v H', Q v H' → Q' v H') : wpW X e σ H Q' := fun wh pins s I => thn (h wh pins s I) fun _ _ ⟨H', a, c⟩ => ⟨H', a, q _ _ c⟩
theorem opT.mono {f : Value → Value → Sem Value} {x y : V} {Q Q' : VK} (h : opT X f x y H Q) (q : ∀ v H', Q v H' → Q' v H') : opT X f x y H Q' := fun pins σ s v u I a b => thn (h pins σ s v u I a b) fun _ _ ⟨v, H', a, b, c⟩ => ⟨v, H', a, b, q _ _ c⟩
theorem unT.mono {f : Value → Sem Value} {x : V} {Q Q' : VK} (h : unT X f x H Q) (q : ∀ v H', Q v H' → Q' v H') : unT X f x H Q' := fun pins σ s v I a => thn (h pins σ s v I a) fun _ _ ⟨v, H', a, b, c⟩ => ⟨v, H', a, b, q _ _ c⟩
theorem caT.mono {f : Value} {xs : List V} {Q Q' : VK} (h : caT X f xs H Q) (q : ∀ v H', Q v H' → Q' v H') : caT X f xs H Q' := fun pins σ s us I a => thn (h pins σ s us I a) fun _ _ ⟨v, H', a, b, c⟩ => ⟨v, H', a, b, q _ _ c⟩
theorem trT.mono {x : V} {Q Q' : Bool → Hp → Prop} (h : trT X x H Q) (q : ∀ v H', Q v H' → Q' v H') : trT X x H Q' := fun pins σ s v I a => thn (h pins σ s v I a) fun _ _ ⟨H', a, c⟩ => ⟨H', a, q _ _ c⟩
/-- what is wanted behind a statement, weakened -/
structure EndsLe (D D' : Ends) : Prop where
  nx : ∀ σ H, D.nx σ H → D'.nx σ H
  rt : ∀ v H, D.rt v H → D'.rt v H
  bk : ∀ σ H, D.bk σ H → D'.bk σ H
  ct : ∀ σ H, D.ct σ H → D'.ct σ H
theorem SP.le {X : Cx} {pins : List (Addr × Obj)} {D D' : Ends} (l : EndsLe D D') {f : Flow} {s : Shared} (h : SP X pins D f s) : SP X pins D' f s := by
  cases f with
  | next => obtain ⟨σ, H, I, q⟩ := h; exact ⟨σ, H, I, l.nx _ _ q⟩
  | brk => obtain ⟨σ, H, I, q⟩ := h; exact ⟨σ, H, I, l.bk _ _ q⟩
  | cont => obtain ⟨σ, H, I, q⟩ := h; exact ⟨σ, H, I, l.ct _ _ q⟩
  | ret u => obtain ⟨v, σ, H, I, r, q⟩ := h; exact ⟨v, σ, H, I, r, l.rt _ _ q⟩
theorem wpS.mono {D D' : Ends} (h : wpS X st D σ H) (l : EndsLe D D') : wpS X st D' σ H := fun pins s I => thn (h pins s I) fun _ _ q => SP.le l q
theorem wpSs.mono {D D' : Ends} (h : wpSs X sts D σ H) (l : EndsLe D D') : wpSs X sts D' σ H := fun pins s I => thn (h pins s I) fun _ _ q => SP.le l q
end
abbrev VP := D → Mem → Prop
def Fin (K : PySem.W.Frag) (P : Hp) (Φ : VP) : VK := fun v H2 => ∃ d M' P2, Φ d M' ∧ Ex P P2 ∧ MOk K M' P2 H2 ∧ IsD K P2 v d
def FinB (K : PySem.W.Frag) (P : Hp) (Φ : Bool → Mem → Prop) : Bool → Hp → Prop := fun b H2 => ∃ M' P2, Φ b M' ∧ Ex P P2 ∧ MOk K M' P2 H2
def FinS (K : PySem.W.Frag) (P : Hp) (Φ : Sl → Mem → Prop) : L2.St → Hp → Prop := fun σ H2 => ∃ Γ' M' P2, Φ Γ' M' ∧ Ex P P2 ∧ SOk K Γ' P2 σ ∧ MOk K M' P2 H2
structure Po where
  nx : Sl → Mem → Prop
  rt : VP
  bk : Sl → Mem → Prop := fun _ _ => False
  ct : Sl → Mem → Prop := fun _ _ => False
def Po.ends (K : PySem.W.Frag) (P : Hp) (Ψ : Po) : Ends := { nx := FinS K P Ψ.nx, rt := Fin K P Ψ.rt, bk := FinS K P Ψ.bk, ct := FinS K P Ψ.ct }
section
variable {K : PySem.W.Frag} {P P' : Hp}
theorem Fin.imp {Φ Φ' : VP} {v : V} {H : Hp} (e : ∀ d M, Φ d M → Φ' d M) (h : Fin K P Φ v H) : Fin K P Φ' v H := let ⟨d, M, P2, a, b⟩ := h; ⟨d, M, P2, e _ _ a, b⟩
theorem FinS.imp {Φ Φ' : Sl → Mem → Prop} {σ : L2.St} {H : Hp} (e : ∀ d M, Φ d M → Φ' d M) (h : FinS K P Φ σ H) : FinS K P Φ' σ H := let ⟨d, M, P2, a, b⟩ := h; ⟨d, M, P2, e _ _ a, b⟩
theorem Fin.one {Φ : VP} {v : V} {H : Hp} {d : D} {M : Mem} (h : Φ d M) (m : MOk K M P H) (i : IsD K P v d) : Fin K P Φ v H := ⟨d, M, P, h, Same.refl P, m, i⟩
end
def WE (X : Cx) (Γ : Sl) (M : Mem) (e : Expr) (Φ : VP) : Prop := ∀ P σ H, SOk X.K Γ P σ → MOk X.K M P H → wpT X e σ H (Fin X.K P Φ)
def WT (X : Cx) (Γ : Sl) (M : Mem) (e : Expr) (Φ : Bool → Mem → Prop) : Prop := ∀ P σ H, SOk X.K Γ P σ → MOk X.K M P H → wpB X e σ H (FinB X.K P Φ)
def W1 (X : Cx) (Γ : Sl) (M : Mem) (st : Stmt) (Ψ : Po) : Prop := ∀ P σ H, SOk X.K Γ P σ → MOk X.K M P H → wpS X st (Ψ.ends X.K P) σ H
def WS (X : Cx) (Γ : Sl) (M : Mem) (sts : List Stmt) (Ψ : Po) : Prop := ∀ P σ H, SOk X.K Γ P σ → MOk X.K M P H → wpSs X sts (Ψ.ends X.K P) σ H
/-- operations on data -/
def OpD (X : Cx) (f : Value → Value → Sem Value) (x y : D) (M : Mem) (Φ : VP) : Prop := ∀ P H a b, MOk X.K M P H → IsD X.K P a x → IsD X.K P b y → opT X f a b H (Fin X.K P Φ)
def CaD (X : Cx) (f : Value) (xs : List D) (M : Mem) (Φ : VP) : Prop := ∀ P H as, MOk X.K M P H → IsDs X.K P as xs → caT X f as H (Fin X.K P Φ)
def TrD (X : Cx) (x : D) (M : Mem) (Φ : Bool → Mem → Prop) : Prop := ∀ P H a, MOk X.K M P H → IsD X.K P a x → trT X a H (FinB X.K P Φ)
section
variable {X : Cx} {Γ : Sl} {M : Mem} {Φ Φ' : VP} {Ψ : Po} {e a b c o : Expr} {es rest : List Expr} {pos p pos' : Pos} {st : Stmt} {sts : List Stmt} {B B' : Bool → Mem → Prop}
theorem WE.mono (h : WE X Γ M e Φ) (q : ∀ d M', Φ d M' → Φ' d M') : WE X Γ M e Φ' := fun P σ H s m => (h P σ H s m).mono fun _ _ z => z.imp q
theorem WT.mono (h : WT X Γ M e B) (q : ∀ d M', B d M' → B' d M') : WT X Γ M e B' := fun P σ H s m => (h P σ H s m).mono fun _ _ ⟨M', P2, a, b⟩ => ⟨M', P2, q _ _ a, b⟩
end
end Dt
set_option Elab.async false
set_option linter.all false
set_option maxRecDepth 100000
set_option maxHeartbeats 2000000
namespace Dt
open PySem PySem.Spec PyProof.Rows L2
abbrev DS := List D → Mem → VP → Prop
def spOf (K : PySem.W.Frag) (S : DS) : Sp := fun vs H Q _ => ∃ P M ds Φ, IsDs K P vs ds ∧ MOk K M P H ∧ S ds M Φ ∧ ∀ v H', Fin K P Φ v H' → Q v H'
/-- a def that the module's name x stands for -/
def HasFn (P : Program) (w : World) (K : PySem.W.Frag) (mg : Str → Option Value) (base : Heap) (k : Nat) (x : Str) (S : DS) : Prop :=
  ∃ f fd ps, FnOk P w K mg base CX0 k f fd ps (spOf K S) ∧ mg x = some (.ref f) ∧ PySem.W.keepIn K (.ref f) = true ∧ Binds K fd ps []
/-- a method m of the class at C -/
def HasMe (P : Program) (w : World) (K : PySem.W.Frag) (mg : Str → Option Value) (base : Heap) (k : Nat) (C : Addr) (m : Str) (S : DS) : Prop :=
  ∃ f fd ps, FnOk P w K mg base CX0 k f fd ps (spOf K S) ∧ Meth K C m f ∧ Binds K fd ps []
/-- the class at C, of the name x, made by its __init__ -/
def HasMk (P : Program) (w : World) (K : PySem.W.Frag) (mg : Str → Option Value) (base : Heap) (k : Nat) (C : Addr) (x : Str) (S : DS) : Prop :=
  ∃ f fd ps, FnOk P w K mg base CX0 k f fd ps (spOf K S) ∧ Mk K C f ∧ mg x = some (.ref C) ∧ Binds K fd ps []
section
variable {X : Cx} {Γ : Sl} {M : Mem} {Φ : VP} {Ψ : Po} {e a b c o : Expr} {es : List Expr} {pos p pos' apos : Pos} {k : Nat} {x f : Str} {S : DS}
/-- an object of the class at C with these attributes, one's own (in M) or not -/
def ObjD (M : Mem) (d : D) (C : Addr) (fs : List (Str × D)) : Prop := d = .obj C fs ∨ ∃ (j : Nat) (l : Addr), d = .adr l ∧ M[j]? = some (l, .ins C fs)
theorem ObjD.at_ {K : PySem.W.Frag} {P H : Hp} {d : D} {C : Addr} {fs : List (Str × D)} {v : V} (h : ObjD M d C fs) (m : MOk K M P H) (i : IsD K P v d) : ∃ a dx xs, v = .ref a ∧ H a = some (.ins C dx xs) ∧ IsFs K P xs fs := by
  rcases h with rfl | ⟨j, l, rfl, hl⟩
  · cases i with
    | obj h hl hi => exact ⟨_, _, _, rfl, m.ex _ _ h, hl, hi⟩
  · cases i
    obtain ⟨_, dx, xs, h1, h2⟩ := m.get hl
    exact ⟨_, dx, xs, rfl, h1, h2⟩
end
section
variable {X : Cx} {M : Mem} {Φ : VP} {i j : Int}
theorem od_int0 {f : Value → Value → Sem Value} {g : Int → Int → V} {d : D} (h : OpR X f (rI0 g)) (hg : ∀ P, IsD X.K P (g i j) d) (q : Φ d M) : OpD X f (.int i) (.int j) M Φ := fun P H a b m ia ib => by
  cases ia
  cases ib
  exact opT_of h ⟨i, j, rfl, rfl, .one q m (hg P)⟩
theorem od_add (q : Φ (.int (i + j)) M) : OpD X (binaryOp .Add) (.int i) (.int j) M Φ := od_int0 op_add (fun _ => .int) q
theorem od_sub (q : Φ (.int (i - j)) M) : OpD X (binaryOp .Sub) (.int i) (.int j) M Φ := od_int0 op_sub (fun _ => .int) q
theorem od_lt (q : Φ (.bl (decide (i < j))) M) : OpD X (compareOp .Lt) (.int i) (.int j) M Φ := od_int0 op_lt (fun _ => .bl) q
theorem od_le (q : Φ (.bl (decide (i ≤ j))) M) : OpD X (compareOp .LtE) (.int i) (.int j) M Φ := od_int0 op_le (fun _ => .bl) q
theorem od_gt (q : Φ (.bl (decide (j < i))) M) : OpD X (compareOp .Gt) (.int i) (.int j) M Φ := od_int0 op_gt (fun _ => .bl) q
theorem od_ge (q : Φ (.bl (decide (j ≤ i))) M) : OpD X (compareOp .GtE) (.int i) (.int j) M Φ := od_int0 op_ge (fun _ => .bl) q
theorem od_eq (q : Φ (.bl (decide (i = j))) M) : OpD X (compareOp .Eq) (.int i) (.int j) M Φ := fun P H a b m ia ib => by
  cases ia
  cases ib
  have e : decide (V.int i = V.int j) = decide (i = j) := decide_eq_decide.mpr ⟨V.int.inj, fun z => by rw [z]⟩
  exact opT_of op_eq ⟨rfl, .one (by rw [← e] at q; exact q) m .bl⟩
theorem od_ne (q : Φ (.bl (!decide (i = j))) M) : OpD X (compareOp .NotEq) (.int i) (.int j) M Φ := fun P H a b m ia ib => by
  cases ia
  cases ib
  have e : decide (V.int i = V.int j) = decide (i = j) := decide_eq_decide.mpr ⟨V.int.inj, fun z => by rw [z]⟩
  exact opT_of op_ne ⟨rfl, .one (by rw [← e] at q; exact q) m .bl⟩
theorem od_eqS {x y : Str} (q : Φ (.bl (decide (x = y))) M) : OpD X (compareOp .Eq) (.str x) (.str y) M Φ := fun P H a b m ia ib => by
  cases ia
  cases ib
  have e : decide (V.str x = V.str y) = decide (x = y) := decide_eq_decide.mpr ⟨V.str.inj, fun z => by rw [z]⟩
  exact opT_of op_eq ⟨rfl, .one (by rw [← e] at q; exact q) m .bl⟩
theorem od_neS {x y : Str} (q : Φ (.bl (!decide (x = y))) M) : OpD X (compareOp .NotEq) (.str x) (.str y) M Φ := fun P H a b m ia ib => by
  cases ia
  cases ib
  have e : decide (V.str x = V.str y) = decide (x = y) := decide_eq_decide.mpr ⟨V.str.inj, fun z => by rw [z]⟩
  exact opT_of op_ne ⟨rfl, .one (by rw [← e] at q; exact q) m .bl⟩
/-- truth values -/
theorem od_eqB {x y : Bool} (q : Φ (.bl (decide (x = y))) M) : OpD X (compareOp .Eq) (.bl x) (.bl y) M Φ := fun P H a b m ia ib => by
  cases ia
  cases ib
  have e : decide (V.bl x = V.bl y) = decide (x = y) := decide_eq_decide.mpr ⟨V.bl.inj, fun z => by rw [z]⟩
  exact opT_of op_eq ⟨rfl, .one (by rw [← e] at q; exact q) m .bl⟩
theorem od_neB {x y : Bool} (q : Φ (.bl (!decide (x = y))) M) : OpD X (compareOp .NotEq) (.bl x) (.bl y) M Φ := fun P H a b m ia ib => by
  cases ia
  cases ib
  have e : decide (V.bl x = V.bl y) = decide (x = y) := decide_eq_decide.mpr ⟨V.bl.inj, fun z => by rw [z]⟩
  exact opT_of op_ne ⟨rfl, .one (by rw [← e] at q; exact q) m .bl⟩
def isNon : D → Bool
  | .non => true
  | _ => false
theorem isNon_v {K : PySem.W.Frag} {P : Hp} {v : V} {d : D} (h : IsD K P v d) : decide (v = .non) = isNon d := by
  cases h <;> rfl
theorem od_is {x : D} (q : Φ (.bl (isNon x)) M) : OpD X (compareOp .Is) x .non M Φ := fun P H a b m ia ib => by
  cases ib
  exact opT_of op_isN ⟨rfl, .one (by rw [isNon_v ia]; exact q) m .bl⟩
theorem od_isn {x : D} (q : Φ (.bl (!isNon x)) M) : OpD X (compareOp .IsNot) x .non M Φ := fun P H a b m ia ib => by
  cases ib
  exact opT_of op_notN ⟨rfl, .one (by rw [isNon_v ia]; exact q) m .bl⟩
end
section
variable {X : Cx} {M : Mem} {B : Bool → Mem → Prop}
theorem tr_of {d : D} {k : Bool} (h : ∀ P H v, MOk X.K M P H → IsD X.K P v d → TruV X.K v H k) (q : B k M) : TrD X d M B := fun P H a m ia =>
  trT_of tru_ok ⟨k, h P H a m ia, M, P, q, Same.refl P, m⟩
theorem tr_bl {b : Bool} (q : B b M) : TrD X (.bl b) M B := tr_of (fun P H v m i => by cases i; exact rfl) q
theorem tr_non (q : B false M) : TrD X .non M B := tr_of (fun P H v m i => by cases i; exact rfl) q
theorem tr_int {i : Int} (q : B (i != 0) M) : TrD X (.int i) M B := tr_of (fun P H v m i => by cases i; exact rfl) q
theorem isE {K : PySem.W.Frag} {P : Hp} {xs : List V} {ds : List D} (h : xs.length = ds.length) : (!ds.isEmpty) = !xs.isEmpty := by
  cases xs with
  | nil => cases ds with
    | nil => rfl
    | cons d r => simp at h
  | cons x r => cases ds with
    | nil => simp at h
    | cons d r => rfl
theorem tr_lst {ds : List D} (q : B (!ds.isEmpty) M) : TrD X (.lst ds) M B := tr_of (fun P H v m i => by
  cases i with
  | lst h hl hi => exact .inl ⟨_, m.ex.seq h, isE (K := X.K) (P := P) hl⟩) q
theorem tr_tup {ds : List D} (q : B (!ds.isEmpty) M) : TrD X (.tup ds) M B := tr_of (fun P H v m i => by
  cases i with
  | tup h hl hi => exact .inr (.inl ⟨_, Same.tupS m.ex h, isE (K := X.K) (P := P) hl⟩)) q
end
def IxD (X : Cx) (x y : D) (M : Mem) (Φ : VP) : Prop := ∀ P H a b, MOk X.K M P H → IsD X.K P a x → IsD X.K P b y → rIx X.K a b H (Fin X.K P Φ)
section
variable {X : Cx} {Γ : Sl} {M : Mem} {Φ : VP} {a b : Expr} {pos : Pos}
theorem atI_rel {K : PySem.W.Frag} {P : Hp} {xs : List V} {ds : List D} {i : Int} {d : D} (hl : xs.length = ds.length) (hi : ∀ (i : Nat) x d, xs[i]? = some x → ds[i]? = some d → IsD K P x d) (h : atI ds i = some d) : ∃ v, atI xs i = some v ∧ IsD K P v d := by
  unfold atI at h ⊢
  rw [hl]
  cases e : ixN ds.length i with
  | none => rw [e] at h; cases h
  | some j =>
    rw [e] at h
    have h' : ds[j]? = some d := h
    have hj : j < xs.length := by rw [hl]; exact (List.getElem?_eq_some_iff.mp h').1
    exact ⟨xs[j], List.getElem?_eq_getElem hj, hi j _ d (List.getElem?_eq_getElem hj) h'⟩
theorem ix_tupI {ds : List D} {i : Int} {d : D} (h : atI ds i = some d) (q : Φ d M) : IxD X (.tup ds) (.int i) M Φ := fun P H v u m iv iu => by
  cases iu
  cases iv with
  | tup hs hl hi =>
    obtain ⟨w, h1, h2⟩ := atI_rel hl hi h
    exact .inr (.inl ⟨_, _, i, w, rfl, rfl, Same.tupS m.ex hs, h1, .one q m h2⟩)
theorem ix_lstI {ds : List D} {i : Int} {d : D} (h : atI ds i = some d) (q : Φ d M) : IxD X (.lst ds) (.int i) M Φ := fun P H v u m iv iu => by
  cases iu
  cases iv with
  | lst hs hl hi =>
    obtain ⟨w, h1, h2⟩ := atI_rel hl hi h
    exact .inl ⟨_, _, i, w, rfl, rfl, m.ex.seq hs, h1, .one q m h2⟩
theorem ix_tup {ds : List D} {j : Nat} {i : Int} {d : D} (hj : i = (j : Int)) (h : ds[j]? = some d) (q : Φ d M) : IxD X (.tup ds) (.int i) M Φ := ix_tupI (by rw [hj]; exact atI_nat h) q
theorem ix_lst {ds : List D} {j : Nat} {i : Int} {d : D} (hj : i = (j : Int)) (h : ds[j]? = some d) (q : Φ d M) : IxD X (.lst ds) (.int i) M Φ := ix_lstI (by rw [hj]; exact atI_nat h) q
theorem ix_ownI {ds : List D} {k : Nat} {l : Addr} {i : Int} {d : D} (hk : M[k]? = some (l, .lst ds)) (h : atI ds i = some d) (q : Φ d M) : IxD X (.adr l) (.int i) M Φ := fun P H v u m iv iu => by
  cases iu
  cases iv
  obtain ⟨_, xs, h1, h2⟩ := m.get hk
  obtain ⟨w, h3, h4⟩ := atI_rel h2.1 h2.2 h
  exact .inl ⟨_, xs, i, w, rfl, rfl, SqL.of h1, h3, .one q m h4⟩
theorem ix_own {ds : List D} {k j : Nat} {l : Addr} {i : Int} {d : D} (hk : M[k]? = some (l, .lst ds)) (hj : i = (j : Int)) (h : ds[j]? = some d) (q : Φ d M) : IxD X (.adr l) (.int i) M Φ := ix_ownI hk (by rw [hj]; exact atI_nat h) q
end
end Dt
set_option Elab.async false
set_option linter.all false
set_option maxRecDepth 100000
set_option maxHeartbeats 2000000
namespace Dt
open PySem PySem.Spec PyProof.Rows L2
section
variable {X : Cx} {Γ : Sl} {M : Mem} {Φ : VP} {Ψ : Po} {e : Expr} {es : List Expr} {pos p pos' : Pos} {B : Bool → Mem → Prop}
theorem W1.mono {st : Stmt} {Ψ Ψ' : Po} (h : W1 X Γ M st Ψ) (a : ∀ Γ' M', Ψ.nx Γ' M' → Ψ'.nx Γ' M') (b : ∀ d M', Ψ.rt d M' → Ψ'.rt d M') (c : ∀ Γ' M', Ψ.bk Γ' M' → Ψ'.bk Γ' M') (d : ∀ Γ' M', Ψ.ct Γ' M' → Ψ'.ct Γ' M') : W1 X Γ M st Ψ' := fun P σ H s m =>
  (h P σ H s m).mono ⟨fun _ _ z => z.imp a, fun _ _ z => z.imp b, fun _ _ z => z.imp c, fun _ _ z => z.imp d⟩
theorem WS.mono {sts : List Stmt} {Ψ Ψ' : Po} (h : WS X Γ M sts Ψ) (a : ∀ Γ' M', Ψ.nx Γ' M' → Ψ'.nx Γ' M') (b : ∀ d M', Ψ.rt d M' → Ψ'.rt d M') (c : ∀ Γ' M', Ψ.bk Γ' M' → Ψ'.bk Γ' M') (d : ∀ Γ' M', Ψ.ct Γ' M' → Ψ'.ct Γ' M') : WS X Γ M sts Ψ' := fun P σ H s m =>
  (h P σ H s m).mono ⟨fun _ _ z => z.imp a, fun _ _ z => z.imp b, fun _ _ z => z.imp c, fun _ _ z => z.imp d⟩
end
def wpG (X : Cx) (tg : Expr) : TG := fun v σ H Q => ∀ pins s u, Inv X pins σ H s → RelV v u → wpAny (model X.prog X.w) X.A (assign tg X.env u) (fun _ s' => ∃ σ' H', Inv X pins σ' H' s' ∧ Q σ' H') X.xe s
def wpGs (X : Cx) (ts : List Expr) : TGs := fun vs σ H Q => ∀ pins s us, Inv X pins σ H s → Vals vs us → wpAny (model X.prog X.w) X.A (assignInOrder ((assignEach ts X.env).map (·.2)) us) (fun _ s' => ∃ σ' H', Inv X pins σ' H' s' ∧ Q σ' H') X.xe s
section
variable {X : Cx} {tg : Expr} {ts : List Expr} {σ : L2.St} {H : Hp} {pos : Pos}
theorem wpG.mono {v : V} {Q Q' : L2.St → Hp → Prop} (h : wpG X tg v σ H Q) (q : ∀ σ H, Q σ H → Q' σ H) : wpG X tg v σ H Q' := fun pins s u I r => thn (h pins s u I r) fun _ _ ⟨σ', H', a, b⟩ => ⟨σ', H', a, q _ _ b⟩
theorem wpGs.mono {v : List V} {Q Q' : L2.St → Hp → Prop} (h : wpGs X ts v σ H Q) (q : ∀ σ H, Q σ H → Q' σ H) : wpGs X ts v σ H Q' := fun pins s u I r => thn (h pins s u I r) fun _ _ ⟨σ', H', a, b⟩ => ⟨σ', H', a, q _ _ b⟩
end
end Dt
set_option Elab.async false
set_option linter.all false
set_option maxRecDepth 100000
set_option maxHeartbeats 2000000
namespace Dt
open PySem PySem.Spec PyProof.Rows L2
section
variable {X : Cx} {Γ : Sl} {M : Mem} {Φ : VP} {Ψ : Po} {e o a b : Expr} {es : List Expr} {pos p apos : Pos}
theorem cd_of {f : Value} {xs : List D} {r : List V → Hp → VK → Prop} (hr : CallR X f r) (h : ∀ P H vs, MOk X.K M P H → IsDs X.K P vs xs → r vs H (Fin X.K P Φ)) : CaD X f xs M Φ := fun P H vs m i => caT_of hr (h P H vs m i)
theorem IsDs.un1 {K : PySem.W.Frag} {P : Hp} {vs : List V} {d : D} (h : IsDs K P vs [d]) : ∃ v, vs = [v] ∧ IsD K P v d := by
  obtain ⟨v, r, rfl, hv, hr⟩ := h.uncons
  obtain rfl := hr.unnil
  exact ⟨v, rfl, hv⟩
theorem IsDs.un2 {K : PySem.W.Frag} {P : Hp} {vs : List V} {d d2 : D} (h : IsDs K P vs [d, d2]) : ∃ v v2, vs = [v, v2] ∧ IsD K P v d ∧ IsD K P v2 d2 := by
  obtain ⟨v, r, rfl, hv, hr⟩ := h.uncons
  obtain ⟨v2, rfl, hv2⟩ := hr.un1
  exact ⟨v, v2, rfl, hv, hv2⟩
/-- list(xs): a list of one's own -/
theorem cd_list {ds : List D} {d : D} (hd : d = .lst ds ∨ d = .tup ds ∨ ∃ (k : Nat) (l : Addr), d = .adr l ∧ M[k]? = some (l, .lst ds)) (q : ∀ l, Φ (.adr l) ((l, .lst ds) :: M)) : CaD X (.type "list") [d] M Φ := cd_of call_list_of fun P H vs m h => by
  obtain ⟨v, rfl, hv⟩ := h.un1
  rcases hd with rfl | rfl | ⟨k, l, rfl, hk⟩
  · cases hv with
    | lst hs hl hi => exact ⟨_, _, rfl, .inl (m.ex.seq hs), fun l hn => ⟨_, _, P, q l, Same.refl P, m.own hn ⟨_, upd_same, hl, hi⟩, .adr⟩⟩
  · cases hv with
    | tup hs hl hi => exact ⟨_, _, rfl, .inr (Same.tupS m.ex hs), fun l hn => ⟨_, _, P, q l, Same.refl P, m.own hn ⟨_, upd_same, hl, hi⟩, .adr⟩⟩
  · cases hv
    obtain ⟨_, xs, h1, h2⟩ := m.get hk
    exact ⟨_, _, rfl, .inl (SqL.of h1), fun l' hn => ⟨_, _, P, q l', Same.refl P, m.own hn ⟨_, upd_same, h2⟩, .adr⟩⟩
/-- what the type of a piece of data is -/
def tyD : D → Option String
  | .non => some "NoneType"
  | .bl _ => some "bool"
  | .int _ => some "int"
  | .str _ => some "str"
  | .tup _ => some "tuple"
  | .lst _ => some "list"
  | _ => none
theorem tyX_of {K : PySem.W.Frag} {P H : Hp} {v : V} {d : D} {t : String} (m : MOk K M P H) (i : IsD K P v d) (h : tyD d = some t) : TyX K H v (.type t) := by
  cases i with
  | non => cases h; exact .base .non
  | bl => cases h; exact .base (.bl _)
  | int => cases h; exact .base (.int _)
  | str => cases h; exact .base (.str _)
  | ty => cases h
  | tup hs hl hi =>
    cases h
    rcases hs with (h | ⟨ob, h⟩) | ⟨ob, its, n, h, hc, _⟩
    · exact .base (.tup (m.ex _ _ h))
    · exact .fTuple (m.ex _ _ h)
    · exact .kTuple h hc
  | lst hs hl hi =>
    cases h
    rcases hs with (h | ⟨ob, h⟩) | ⟨ob, its, n, h, hc, _⟩
    · exact .base (.lst (m.ex _ _ h))
    · exact .base (.frz (m.ex _ _ h))
    · exact .kList h hc
  | obj h hl hi => cases h
  | adr => cases h
  | dic h hl hi => cases h
  | exc h hl hi => cases h
  | exv h0 h hl hi => cases h
  | exn h0 => cases h
  | dcs h => cases h
theorem cd_isi {d : D} {t n : String} {k : Bool} (ht : tyD d = some t) (hk : kitB t n = some k) (q : Φ (.bl k) M) : CaD X (.builtin "isinstance") [d, .ty n] M Φ := cd_of call_isi fun P H vs m h => by
  obtain ⟨v, v2, rfl, hv, hv2⟩ := h.un2
  cases hv2
  exact ⟨v, .ty n, _, _, k, rfl, .ty n, tyX_of m hv ht, kit_ty hk, .one q m .bl⟩
end
end Dt
set_option Elab.async false
set_option linter.all false
set_option maxRecDepth 100000
set_option maxHeartbeats 2000000
namespace Dt
open PySem PySem.Spec PyProof.Rows L2
abbrev Fg := PySem.W.Frag
/-- one def: how its function object is found, its parts -/
structure Df where
  loc : Fg → Addr
  nm : Str
  qu : Str
  pa : Arguments
  bo : List Stmt
  sc : Scope
  dv : List He.Dv := []
  kv : List (Str × He.Dv) := []
def seeF (K : Fg) (a : Addr) : He.FnW := (K.lookup a).bind fun o => match o.data with
  | .func g => some (g.name, g.qualname, g.params, g.body, g.scope, g.globals, g.closure, g.builtins)
  | _ => none
def Df.told (d : Df) : He.FnW := some (d.nm, d.qu, d.pa, .stmts d.bo, d.sc, mainGlobals, [], builtinsNs)
def Df.ds (K : Fg) (d : Df) : List V := d.dv.map fun z => z.v K
def Df.ks (K : Fg) (d : Df) : List (Str × V) := d.kv.map fun z => (z.1, z.2.v K)
def Df.good (K : Fg) (d : Df) : Bool := (K.lookup (d.loc K)).any fun o => match o.data with
  | .func g => PySem.W.keepIn K (.ref (d.loc K)) && PySem.W.codeIn K g.code d.qu && He.dflB K g.defaults (d.ds K) && He.kwdB K g.kwdefaults (d.ks K)
  | _ => false
theorem Df.fun_ {K : Fg} {d : Df} (h1 : seeF K (d.loc K) = d.told) (h2 : d.good K = true) : ∃ fd, FunD K d.nm d.qu d.pa d.bo d.sc (d.ds K) (d.ks K) (d.loc K) fd := by
  unfold seeF at h1
  unfold Df.good at h2
  generalize hl : K.lookup (d.loc K) = lo at h1 h2
  cases lo with
  | none => cases h2
  | some ob =>
    obtain ⟨c0, d0, dat, sl0⟩ := ob
    cases dat with
    | func g =>
      obtain ⟨g1, g2, g3, g4, g5, g6, g7, g8, g9, g10, g11, g12, g13, g14, g15⟩ := g
      have z : (some (g1, g2, g3, g4, g5, g6, g7, g15) : He.FnW) = d.told := h1
      simp only [Df.told, Option.some.injEq, Prod.mk.injEq] at z
      obtain ⟨r1, r2, r3, r4, r5, r6, r7, r8⟩ := z
      have y : (PySem.W.keepIn K (.ref (d.loc K)) && PySem.W.codeIn K g13 d.qu && He.dflB K g8 (d.ds K) && He.kwdB K g9 (d.ks K)) = true := h2
      simp only [Bool.and_eq_true] at y
      obtain ⟨⟨⟨y1, y2⟩, y3⟩, y4⟩ := y
      subst r1 r2 r3 r4 r5 r6 r7 r8
      refine ⟨_, ⟨⟨c0, d0, g8, g9, g10, g11, g12, g13, g14, sl0, rfl, hl, y2, He.dflB_ok y3, He.kwdB_ok y4⟩, y1⟩⟩
    | _ => cases h2
/-- what the head tells -/
structure Told (fa : List He.Fa) (fn : List Df) (ex : Fg → Bool) (K : Fg) : Prop where
  fact : ∀ f, f ∈ fa → f.ok K = true
  defn : ∀ d, d ∈ fn → ∃ fd, FunD K d.nm d.qu d.pa d.bo d.sc (d.ds K) (d.ks K) (d.loc K) fd
  more : ex K = true
abbrev AlP : Type := Bool × List He.FnW
def lookP (fa : List He.Fa) (fn : List Df) (ex : Fg → Bool) (K : Fg) : AlP := (fa.all (fun f => f.ok K) && fn.all (fun d => d.good K) && ex K, fn.map fun d => seeF K (d.loc K))
def wantP (fn : List Df) : AlP := (true, fn.map Df.told)
theorem told_of {fa : List He.Fa} {fn : List Df} {ex : Fg → Bool} {K : Fg} (h : lookP fa fn ex K = wantP fn) : Told fa fn ex K := by
  have h1 : (fa.all (fun f => f.ok K) && fn.all (fun d => d.good K) && ex K) = true := congrArg Prod.fst h
  have h2 : fn.map (fun d => seeF K (d.loc K)) = fn.map Df.told := congrArg Prod.snd h
  simp only [Bool.and_eq_true, List.all_eq_true] at h1
  obtain ⟨⟨a1, a2⟩, a3⟩ := h1
  exact ⟨a1, fun d hd => Df.fun_ (List.map_inj_left.mp h2 d hd) (a2 d hd), a3⟩
/-- where defs stand -/
def locG (x : Str) (K : Fg) : Addr := He.ga K x
def locM (C m : Str) (K : Fg) : Addr := He.ma K (He.ga K C) m
end Dt
set_option Elab.async false
set_option linter.all false
set_option maxRecDepth 100000
set_option maxHeartbeats 2000000
namespace Dt
open PySem PySem.Spec PyProof.Rows L2
/-- what isinstance asks of an own class -/
structure IsF (K : PySem.W.Frag) (C : Addr) : Prop where
  cls : Cls K C
  own : PySem.W.findIn K (.ref C) "__class__" = some (some (.builtin "object.__class__"))
  get : PySem.W.specialIn K (.builtin "object.__class__") "__get__" = some (some (.builtin "getset_descriptor.__get__"))
  tak : PySem.W.takesIn K (.builtin "object.__class__") = some true
  mro : PySem.W.mroIn K C (.type "object") = some true
section
variable {X : Cx} {Γ : Sl} {M : Mem} {Φ : VP} {d : D} {C C' : Addr} {fs : List (Str × D)} {b : Bool} {t n : String}
theorem IsF.ty {K : PySem.W.Frag} {P H : Hp} {v : V} (hI : IsF K C) (ho : ObjD M d C fs) (m : MOk K M P H) (i : IsD K P v d) : TyX K H v (.ref C) := by
  obtain ⟨a, dx, xs, rfl, ha, hx⟩ := ho.at_ m i
  exact .base (.ins ha hI.cls hI.own hI.get hI.tak hI.mro)
end
def isB (K : Fg) (C : Str) : Bool := He.eqO (PySem.W.findIn K (.ref (He.ga K C)) "__class__") (some (some (.builtin "object.__class__"))) && He.eqO (PySem.W.specialIn K (.builtin "object.__class__") "__get__") (some (some (.builtin "getset_descriptor.__get__"))) && decide (PySem.W.takesIn K (.builtin "object.__class__") = some true) && decide (PySem.W.mroIn K (He.ga K C) (.type "object") = some true)
end Dt
set_option Elab.async false
set_option linter.all false
set_option maxRecDepth 100000
set_option maxHeartbeats 2000000
namespace Dt
open PySem PySem.Spec PyProof.Rows L2
/-- the first n from lo on -/
def rn (lo : Int) (n : Nat) : List Int := (List.range n).map fun k : Nat => lo + (k : Int)
theorem rn_len {lo : Int} {n : Nat} : (rn lo n).length = n := by
  unfold rn
  rw [List.length_map, List.length_range]
end Dt
set_option Elab.async false
set_option linter.all false
set_option maxRecDepth 100000
set_option maxHeartbeats 2000000
namespace Dt
open PySem PySem.Spec PyProof.Rows L2
section
variable {X : Cx} {Γ : Sl} {M : Mem} {Φ : VP}
theorem strs_of {K : PySem.W.Frag} {P : Hp} : ∀ {zs : List Str} {vs : List V}, IsDs K P vs (zs.map D.str) → vs = zs.map V.str
  | [], vs, h => h.unnil
  | b :: bs, vs, h => by
    obtain ⟨v, r, rfl, hv, hr⟩ := IsDs.uncons h
    cases hv
    rw [strs_of hr]
    rfl
end
end Dt
set_option Elab.async false
set_option linter.all false
set_option maxRecDepth 100000
set_option maxHeartbeats 2000000
namespace Dt
open PySem PySem.Spec PyProof.Rows L2
def Good (gs : List Int) (m : Int) : Prop := (∀ g, g ∈ gs → 0 ≤ g) ∧ gs.length ≤ 63 ∧ 0 ≤ m ∧ m < 2 ^ 31
def DealAt (M : Mem) (k : Nat) (l l2 : Addr) : Prop := ∃ gs m, Good gs m ∧ M[k]? = some (l, .lst [.adr l2, .int m]) ∧ M[k + 1]? = some (l2, .lst (gs.map D.int))
section
variable {M : Mem} {k : Nat} {l l2 : Addr} {gs gs' : List Int} {m m' : Int} {x : Addr × MO}
theorem DealAt.len (h : DealAt M k l l2) : k + 1 < M.length := by
  obtain ⟨_, _, _, _, h1⟩ := h
  exact (List.getElem?_eq_some_iff.mp h1).1
end
end Dt
set_option Elab.async false
set_option linter.all false
set_option maxRecDepth 100000
set_option maxHeartbeats 2000000
set_option Elab.async false
set_option linter.all false
set_option maxRecDepth 100000
set_option maxHeartbeats 4000000
set_option Elab.async false
set_option linter.all false
set_option maxRecDepth 100000
set_option maxHeartbeats 4000000
set_option Elab.async false
set_option linter.all false
set_option maxRecDepth 100000
set_option maxHeartbeats 4000000
namespace Dt
open PySem PySem.Spec PyProof.Rows L2
/-- what is told of an error: its class, its attributes, the memory -/
abbrev XP := Addr → List (Str × D) → Mem → Prop
def FinX (K : PySem.W.Frag) (P : Hp) (Ξ : XP) : XK := fun cls d H => ∃ C dd fs ds M' P2, cls = .ref C ∧ d = some dd ∧ P2 dd = some (.xd fs) ∧ IsFs K P2 fs ds ∧ Ξ C ds M' ∧ Ex P P2 ∧ MOk K M' P2 H
theorem FinX.imp {K : PySem.W.Frag} {P : Hp} {Ξ Ξ' : XP} {c : Value} {d : Option Addr} {H : Hp} (e : ∀ C ds M, Ξ C ds M → Ξ' C ds M) (h : FinX K P Ξ c d H) : FinX K P Ξ' c d H := by
  obtain ⟨C, dd, fs, ds, M', P2, a, b, c, d, f, g, i⟩ := h
  exact ⟨C, dd, fs, ds, M', P2, a, b, c, d, e _ _ _ f, g, i⟩
/-- .. as a wish of a frame with its slots: their number alone is told -/
def WXP (X : Cx) (P : Hp) (Ξ : XP) : WX := fun cls d σ H => σ.length = X.N.length ∧ FinX X.K P Ξ cls d H
def WEx (X : Cx) (Γ : Sl) (M : Mem) (e : Expr) (Φ : VP) (Ξ : XP) : Prop := ∀ P σ H, SOk X.K Γ P σ → MOk X.K M P H → Takes X (WXP X P Ξ) → wpT X e σ H (Fin X.K P Φ)
end Dt
set_option Elab.async false
set_option linter.all false
set_option maxRecDepth 100000
set_option maxHeartbeats 4000000
set_option Elab.async false
set_option linter.all false
set_option maxRecDepth 100000
set_option maxHeartbeats 4000000
set_option Elab.async false
set_option linter.all false
set_option maxRecDepth 100000
set_option maxHeartbeats 4000000
namespace Dt
open PySem PySem.Spec PyProof.Rows L2
def insU (k : Int) : List Int → List Int
  | [] => [k]
  | x :: r => if k < x then k :: x :: r else if k = x then x :: r else x :: insU k r
def sortU (ns : List Int) : List Int := ns.foldr insU []
theorem mem_insU {k y : Int} : ∀ l : List Int, y ∈ insU k l ↔ y = k ∨ y ∈ l
  | [] => by simp [insU]
  | x :: r => by
    unfold insU
    split
    · simp
    · split
      · rename_i h
        subst h
        simp
      · rw [List.mem_cons, mem_insU r, List.mem_cons]
        exact or_left_comm
theorem mem_sortU {y : Int} : ∀ ns : List Int, y ∈ sortU ns ↔ y ∈ ns
  | [] => by simp [sortU]
  | k :: r => by
    have ih := mem_sortU (y := y) r
    show y ∈ insU k (sortU r) ↔ _
    rw [mem_insU, ih, List.mem_cons]
theorem pw_insU {k : Int} : ∀ l : List Int, l.Pairwise (· < ·) → (insU k l).Pairwise (· < ·)
  | [], _ => by simp [insU]
  | x :: r, h => by
    obtain ⟨h1, h2⟩ := List.pairwise_cons.mp h
    unfold insU
    split
    · refine List.pairwise_cons.mpr ⟨fun y hy => ?_, h⟩
      rcases List.mem_cons.mp hy with e | e
      · omega
      · have := h1 y e
        omega
    · split
      · exact h
      · refine List.pairwise_cons.mpr ⟨fun y hy => ?_, pw_insU r h2⟩
        rcases (mem_insU r).mp hy with e | e
        · omega
        · exact h1 y e
theorem pw_sortU : ∀ ns : List Int, (sortU ns).Pairwise (· < ·)
  | [] => by simp [sortU]
  | k :: r => pw_insU _ (pw_sortU r)
theorem sortU_len : ∀ ns : List Int, (sortU ns).length ≤ ns.length
  | [] => Nat.le_refl _
  | k :: r => by
    have ih := sortU_len r
    have h2 : ∀ l : List Int, (insU k l).length ≤ l.length + 1 := by
      intro l
      induction l with
      | nil => exact Nat.le_refl _
      | cons x l ihl =>
        unfold insU
        split
        · exact Nat.le_refl _
        · split
          · exact Nat.le_succ _
          · exact Nat.succ_le_succ ihl
    exact Nat.le_trans (h2 (sortU r)) (Nat.succ_le_succ ih)
end Dt
set_option Elab.async false
set_option linter.all false
set_option maxRecDepth 100000
set_option maxHeartbeats 4000000
set_option Elab.async false
set_option linter.all false
set_option maxRecDepth 100000
set_option maxHeartbeats 4000000
set_option Elab.async false
set_option linter.all false
set_option maxRecDepth 100000
set_option maxHeartbeats 4000000
namespace Dt
open PySem PySem.Spec PyProof.Rows L2
abbrev FnX : Type := Option (Str × Str × Arguments × FuncBody × Scope × Addr × List Str × Addr)
def seeX (K : Fg) (a : Addr) : FnX := (K.lookup a).bind fun o => match o.data with
  | .func g => some (g.name, g.qualname, g.params, g.body, g.scope, g.globals, g.closure.map (·.1), g.builtins)
  | _ => none
def Df.toldX (d : Df) : FnX := some (d.nm, d.qu, d.pa, .stmts d.bo, d.sc, mainGlobals, ["__class__"], builtinsNs)
abbrev AlQ : Type := (Bool × List He.FnW) × List FnX
def lookQ (fa : List He.Fa) (fn fx : List Df) (ex : Fg → Bool) (K : Fg) : AlQ := (lookP fa fn ex K, fx.map fun d => seeX K (d.loc K))
def wantQ (fn fx : List Df) : AlQ := (wantP fn, fx.map Df.toldX)
structure ToldQ (fa : List He.Fa) (fn fx : List Df) (ex : Fg → Bool) (K : Fg) : Prop where
  told : Told fa fn ex K
  defx : ∀ d, d ∈ fx → seeX K (d.loc K) = d.toldX
theorem toldQ_of {fa : List He.Fa} {fn fx : List Df} {ex : Fg → Bool} {K : Fg} (h : lookQ fa fn fx ex K = wantQ fn fx) : ToldQ fa fn fx ex K := by
  have h1 : lookP fa fn ex K = wantP fn := congrArg Prod.fst h
  have h2 : fx.map (fun d => seeX K (d.loc K)) = fx.map Df.toldX := congrArg Prod.snd h
  exact ⟨told_of h1, fun d hd => List.map_inj_left.mp h2 d hd⟩
def oexB (K : Fg) (C : Addr) : Bool := (match K.lookup C with
  | some ⟨.type c, _, .cls cd, sl⟩ => (match cd.mro, sl.toList with
    | .ref C' :: bm, [_, _, _, _, some (.builtin n), _] => decide (c = "type") && (decide (C' = C) && (decide (n = "ValueError.__new__") && (cd.hasDict && (!cd.hasDel && PySem.HandSPX.refsVE bm))))
    | _, _ => false)
  | _ => false) && (He.eqO (PySem.W.findIn K (.ref C) "__setattr__") (some (some (.builtin "object.__setattr__"))) && (decide (PySem.W.subIn K (.ref C) (.type "BaseException") = some true) && (decide (PySem.W.typeIn K (.ref C) = some (.type "type")) && PySem.W.keepIn K (.ref C))))
/-- all that is asked of the class C and its __init__ -/
def supB (fl : Str) (K : Fg) (C : Addr) (x qu : Str) : Bool := oexB K C && (He.eqO (PySem.W.ks_superIn K C C "__init__") (some (some (.builtin "ValueError.__init__"))) && (decide (PySem.W.mroIn K C (.ref C) = some true) && (decide (PySem.W.subIn K (.ref C) (.type "ValueError") = some true) &&
  (He.eqO (PySem.W.nsIn K cStatics "thirdparty.any") (some none) && (He.eqO (PySem.W.findIn K (.ref C) x) (some none) && (He.eqO (PySem.W.nsIn K mainGlobals "super") (some none) && (He.eqO (PySem.W.findIn K (.ref C) "__init__") (some (some (.ref (He.ma K C "__init__")))) &&
  (decide (PySem.W.typeIn K (.ref (He.ma K C "__init__")) = some (.type "function")) && (match K.lookup (He.ma K C "__init__") with
  | some ⟨_, _, .func g, _⟩ => (match g.closure, g.code with
    | [(_, cc)], .ref cda => PySem.W.codeIn K (.ref cda) qu && (decide (g.defaults = .none) && ((match K.lookup cc with
      | some ⟨_, _, .cell (some (.ref C')), _⟩ => decide (C' = C)
      | _ => false) && (match K.lookup cda with
      | some ⟨_, _, .fields vs, _⟩ => (match (vs[2]? : Option Value) with
        | some (.str file _) => fl == file
        | _ => false)
      | _ => false)))
    | _, _ => false)
  | _ => false)))))))))
def xcB (K : Fg) (C : Addr) (f : Str) : Bool := xfB K C && (He.eqO (PySem.W.findIn K (.ref C) f) (some none) && (He.eqO (PySem.W.findIn K (.ref C) "__class__") (some (some (.builtin "object.__class__"))) && (He.eqO (PySem.W.specialIn K (.builtin "object.__class__") "__get__") (some (some (.builtin "getset_descriptor.__get__"))) &&
  (decide (PySem.W.takesIn K (.builtin "object.__class__") = some true) && decide (PySem.W.mroIn K C (.type "object") = some true)))))
/-- an empty tuple of the written part -/
def nilB (K : Fg) (a : Addr) : Bool := match K.lookup a with
  | some ⟨.type c, _, .seq its _, _⟩ => decide (c = "tuple") && its.toList.isEmpty
  | _ => false
end Dt
set_option Elab.async false
set_option linter.all false
set_option maxRecDepth 100000
set_option maxHeartbeats 4000000
set_option Elab.async false
set_option linter.all false
set_option maxRecDepth 100000
set_option maxHeartbeats 4000000
set_option Elab.async false
set_option linter.all false
set_option maxRecDepth 100000
set_option maxHeartbeats 4000000
set_option Elab.async false
set_option linter.all false
set_option maxRecDepth 100000
set_option maxHeartbeats 2000000
namespace Dt
open PySem PySem.Spec PyProof.Rows L2
section
variable {X : Cx} {Γ : Sl} {M : Mem} {Φ : VP} {Ψ : Po} {a b c e o tg elt iter : Expr} {ifs : List Expr} {scope : Scope} {own : List (Str × Nat)} {body : List Stmt} {pos p pos2 pos' : Pos} {Θ : Sl → Mem → Prop} {d : D}
/-- a list: one that changes no more, or one of one's own -/
def LstD (M : Mem) (d : D) (ds : List D) : Prop := d = .lst ds ∨ ∃ (k : Nat) (l : Addr), d = .adr l ∧ M[k]? = some (l, .lst ds)
theorem LstD.at_ {K : PySem.W.Frag} {P H : Hp} {v : V} {ds : List D} (h : LstD M d ds) (m : MOk K M P H) (i : IsD K P v d) : ∃ l xs, v = .ref l ∧ SqL K H l xs ∧ IsDs K P xs ds := by
  rcases h with rfl | ⟨k, l, rfl, hk⟩
  · cases i with
    | lst hq hl hi => exact ⟨_, _, rfl, m.ex.seq hq, hl, hi⟩
  · cases i
    obtain ⟨_, xs, h1, h2⟩ := m.get hk
    exact ⟨_, _, rfl, SqL.of h1, h2⟩
end
end Dt
set_option Elab.async false
set_option linter.all false
set_option maxRecDepth 100000
set_option maxHeartbeats 2000000
namespace Dt
open PySem PySem.Spec PyProof.Rows L2
section
variable {X : Cx} {Γ : Sl} {M : Mem} {Φ : VP} {o e : Expr} {apos pos : Pos}
/-- a list or tuple of texts -/
def StrsD (M : Mem) (d : D) (ys : List Str) : Prop := LstD M d (ys.map D.str) ∨ d = .tup (ys.map D.str)
theorem StrsD.at_ {K : PySem.W.Frag} {P H : Hp} {v : V} {d : D} {ys : List Str} (h : StrsD M d ys) (m : MOk K M P H) (i : IsD K P v d) : ∃ p, v = .ref p ∧ (SqL K H p (ys.map V.str) ∨ SqT K H p (ys.map V.str)) := by
  rcases h with h | rfl
  · obtain ⟨l, xs, rfl, h1, h2⟩ := h.at_ m i
    rw [strs_of h2] at h1
    exact ⟨l, rfl, .inl h1⟩
  · cases i with
    | tup hs hl hi =>
      rw [strs_of ⟨hl, hi⟩] at hs
      exact ⟨_, rfl, .inr (Same.tupS m.ex hs)⟩
end
end Dt
set_option Elab.async false
set_option linter.all false
set_option maxRecDepth 100000
set_option maxHeartbeats 2000000
namespace Dt
open PySem PySem.Spec PyProof.Rows L2
theorem len_le_of : ∀ (as bs : List Int), as.Nodup → (∀ k, k ∈ as → k ∈ bs) → as.length ≤ bs.length
  | [], bs, _, _ => Nat.zero_le _
  | a :: as, bs, hn, h => by
    obtain ⟨h1, h2⟩ := List.nodup_cons.mp hn
    have ha := h a List.mem_cons_self
    have := len_le_of as (bs.erase a) h2 fun c hc => (List.mem_erase_of_ne (fun (e : c = a) => h1 (e ▸ hc))).mpr (h c (List.mem_cons_of_mem _ hc))
    rw [List.length_erase_of_mem ha] at this
    have := List.length_pos_of_mem ha
    rw [List.length_cons]
    omega
/-- cells that can be ordered -/
structure OrdOk (cs : List (Int × Int)) : Prop where
  len : cs.length ≤ 1000
  xs : (sortU (cs.map (·.1))).length < 64
  ys : ∀ x, (sortU ((cs.filter fun c => decide (c.1 = x)).map (·.2))).length < 64
theorem OrdOk.of {cs : List (Int × Int)} (h : cs.length < 64) : OrdOk cs := ⟨by omega, by
    have := sortU_len (cs.map (·.1))
    rw [List.length_map] at this
    omega, fun x => by
    have := sortU_len ((cs.filter fun c => decide (c.1 = x)).map (·.2))
    have h2 := List.length_filter_le (fun c : Int × Int => decide (c.1 = x)) cs
    rw [List.length_map] at this
    omega⟩
/-- numbers between bounds are few -/
theorem few {ns : List Int} {a : Int} {n : Nat} (h : ∀ k, k ∈ ns → a ≤ k ∧ k < a + n) : (sortU ns).length ≤ n := by
  have := len_le_of (sortU ns) (rn a n) ((pw_sortU ns).imp fun {x y} q e => by omega) fun k hk => by
    rw [mem_sortU] at hk
    obtain ⟨h1, h2⟩ := h k hk
    unfold rn
    exact List.mem_map.mpr ⟨(k - a).toNat, List.mem_range.mpr (by omega), by omega⟩
  rw [rn_len] at this
  exact this
end Dt
set_option Elab.async false
set_option linter.all false
set_option maxRecDepth 100000
set_option maxHeartbeats 2000000
namespace Dt
open PySem PySem.Spec PyProof.Rows L2
def Box (a1 a2 b1 b2 : Int) (ks : List (Int × Int)) : Prop := ∀ c, c ∈ ks → (a1 ≤ c.1 ∧ c.1 ≤ a2) ∧ b1 ≤ c.2 ∧ c.2 ≤ b2
theorem Box.ok {a1 a2 b1 b2 : Int} {ks : List (Int × Int)} (h : Box a1 a2 b1 b2 ks) (hl : ks.length ≤ 1000) (ha : a2 - a1 ≤ 60) (hb : b2 - b1 ≤ 60) : OrdOk ks := by
  refine ⟨hl, Nat.lt_of_le_of_lt (few (a := a1) (n := 61) fun k hk => ?_) (by decide), fun x => Nat.lt_of_le_of_lt (few (a := b1) (n := 61) fun k hk => ?_) (by decide)⟩
  · obtain ⟨c, hc, rfl⟩ := List.mem_map.mp hk
    have := h c hc
    omega
  · obtain ⟨c, hc, rfl⟩ := List.mem_map.mp hk
    have := h c (List.mem_filter.mp hc).1
    omega
end Dt
set_option Elab.async false
set_option linter.all false
set_option maxRecDepth 100000
set_option maxHeartbeats 2000000
namespace Dt
open PySem PySem.Spec PyProof.Rows L2
def isS (i : Int) : Str := Str.ofString (toString i)
theorem slA (a b : Str) : (a ++ b).length = a.length + b.length := by
  rw [TL.len_tl, TL.tl_append, List.length_append, ← TL.len_tl, ← TL.len_tl]
/-- parts with blanks between -/
def spJ (parts : List Str) : Str := Txt.join " " parts
theorem sp_tl : TL.tl (" " : Str) = [32] := by decide +kernel
theorem spJ_tl (parts : List Str) : TL.tl (spJ parts) = TL.joinL [32] (parts.map TL.tl) := by
  unfold spJ
  rw [TL.join_eq, TL.tl_join, sp_tl]
theorem spJ_two {a b : Str} {r : List Str} : spJ (a :: b :: r) = a ++ (" " ++ spJ (b :: r)) := by
  refine TL.ext_tl ?_
  rw [spJ_tl, TL.tl_append, TL.tl_append, spJ_tl, sp_tl]
  rfl
theorem spJ_one {a : Str} : spJ [a] = a := by
  refine TL.ext_tl ?_
  rw [spJ_tl]
  rfl
end Dt
set_option Elab.async false
set_option linter.all false
set_option maxRecDepth 100000
set_option maxHeartbeats 2000000
namespace Dt
open PySem PySem.Spec PyProof.Rows L2
def nlJ (parts : List Str) : Str := Txt.join "\n" parts
theorem nl_tl : TL.tl ("\n" : Str) = [10] := by decide +kernel
theorem sumB {α : Type} (f : α → Nat) (n : Nat) : ∀ (as : List α), (∀ a, a ∈ as → f a ≤ n) → (as.map f).sum ≤ as.length * n
  | [], _ => by simp
  | a :: as, h => by
    have h1 := h a List.mem_cons_self
    have h2 := sumB f n as fun b hb => h b (List.mem_cons_of_mem _ hb)
    rw [List.map_cons, List.sum_cons, List.length_cons, Nat.add_mul]
    omega
theorem spJ_len (n : Nat) : ∀ {parts : List Str}, (∀ p, p ∈ parts → p.length ≤ n) → (spJ parts).length ≤ parts.length * (n + 1)
  | [], _ => by rw [TL.len_tl, spJ_tl]; simp [TL.joinL]
  | [a], h => by
    rw [spJ_one]
    have := h a List.mem_cons_self
    show a.length ≤ 1 * (n + 1)
    omega
  | a :: b :: r, h => by
    rw [spJ_two, slA, slA]
    have h1 := h a List.mem_cons_self
    have h2 := spJ_len n (parts := b :: r) fun p hp => h p (List.mem_cons_of_mem _ hp)
    have h3 : (" " : Str).length = 1 := by decide +kernel
    rw [List.length_cons, Nat.add_mul]
    omega
end Dt
set_option Elab.async false
set_option linter.all false
set_option maxRecDepth 100000
set_option maxHeartbeats 2000000
namespace Dt
open PySem PySem.Spec PyProof.Rows L2
theorem nlJ_tl (parts : List Str) : TL.tl (nlJ parts) = TL.joinL [10] (parts.map TL.tl) := by
  unfold nlJ
  rw [TL.join_eq, TL.tl_join, nl_tl]
theorem nlJ_len : ∀ (parts : List Str), (nlJ parts).length ≤ (parts.map (·.length)).sum + parts.length
  | [] => by rw [TL.len_tl, nlJ_tl]; simp [TL.joinL]
  | [a] => by
    rw [TL.len_tl, nlJ_tl]
    show (TL.tl a).length ≤ _
    rw [← TL.len_tl]
    simp
  | a :: b :: r => by
    have ih := nlJ_len (b :: r)
    rw [TL.len_tl, nlJ_tl] at ih ⊢
    have e : TL.joinL [10] ((a :: b :: r).map TL.tl) = TL.tl a ++ ([10] ++ TL.joinL [10] ((b :: r).map TL.tl)) := rfl
    rw [e, List.length_append, List.length_append, ← TL.len_tl]
    have e2 : ((a :: b :: r).map fun x : Str => x.length).sum = a.length + ((b :: r).map fun x : Str => x.length).sum := rfl
    have e3 : (a :: b :: r).length = (b :: r).length + 1 := rfl
    have e4 : ([10] : List Nat).length = 1 := rfl
    omega
end Dt
set_option Elab.async false
set_option linter.all false
set_option maxRecDepth 100000
set_option maxHeartbeats 2000000
namespace Dt
open PySem PySem.Spec PyProof.Rows L2
/-- a list of two numbers at p, the deal behind it at k -/
def LfAt (M : Mem) (p k : Nat) (lL l l2 : Addr) : Prop := p < k ∧ (∃ a b : Int, M[p]? = some (lL, .lst [.int a, .int b])) ∧ DealAt M k l l2
section
variable {M : Mem} {p k : Nat} {lL l l2 : Addr} {a b a' b' : Int} {gs gs' : List Int} {m m' : Int} {x : Addr × MO}
theorem LfAt.len (h : LfAt M p k lL l l2) : k + 1 < M.length := h.2.2.len
end
end Dt
set_option Elab.async false
set_option linter.all false
set_option maxRecDepth 100000
set_option maxHeartbeats 2000000
namespace Dt
open PySem PySem.Spec PyProof.Rows L2
section
variable {P : Program} {w : World} {K : Fg} {h base : Heap} {mg : Str → Option Value} {k j : Nat} {x qual : Str} {params : Arguments} {body : List Stmt} {scope : Scope} {fd : FuncData} {ps : List Str} {S : DS} {C : Addr}
theorem HasFn.mono (F : HasFn P w K mg base k x S) (hk : k ≤ j) : HasFn P w K mg base j x S := by
  obtain ⟨f, fd, ps, F1, r⟩ := F
  exact ⟨f, fd, ps, F1.mono hk, r⟩
theorem HasMe.mono (F : HasMe P w K mg base k C x S) (hk : k ≤ j) : HasMe P w K mg base j C x S := by
  obtain ⟨f, fd, ps, F1, r⟩ := F
  exact ⟨f, fd, ps, F1.mono hk, r⟩
theorem HasMk.mono {n : Str} (F : HasMk P w K mg base k C n S) (hk : k ≤ j) : HasMk P w K mg base j C n S := by
  obtain ⟨f, fd, ps, F1, r⟩ := F
  exact ⟨f, fd, ps, F1.mono hk, r⟩
end
end Dt
set_option Elab.async false
set_option linter.all false
set_option maxRecDepth 100000
set_option maxHeartbeats 4000000
set_option Elab.async false
set_option linter.all false
set_option maxRecDepth 100000
set_option maxHeartbeats 4000000
set_option Elab.async false
set_option linter.all false
set_option maxRecDepth 100000
set_option maxHeartbeats 4000000
set_option Elab.async false
set_option linter.all false
set_option maxRecDepth 100000
set_option maxHeartbeats 2000000
namespace Dt
open PySem PySem.Spec PyProof.Rows L2
/-- d' tells d with the list at r, which holds ds -/
def Rp (r : Addr) (ds : List D) (d d' : D) : Prop := d' = d ∨ (d = .adr r ∧ d' = .lst ds)
inductive RpL (r : Addr) (ds : List D) : List D → List D → Prop
  | nil : RpL r ds [] []
  | cons {d d' : D} {xs ys : List D} (h : Rp r ds d d') (t : RpL r ds xs ys) : RpL r ds (d :: xs) (d' :: ys)
inductive RpF (r : Addr) (ds : List D) : List (Str × D) → List (Str × D) → Prop
  | nil : RpF r ds [] []
  | cons {f : Str} {d d' : D} {xs ys : List (Str × D)} (h : Rp r ds d d') (t : RpF r ds xs ys) : RpF r ds ((f, d) :: xs) ((f, d') :: ys)
inductive RpM (r : Addr) (ds : List D) : MO → MO → Prop
  | lst {xs ys : List D} (h : RpL r ds xs ys) : RpM r ds (.lst xs) (.lst ys)
  | ins {C : Addr} {xs ys : List (Str × D)} (h : RpF r ds xs ys) : RpM r ds (.ins C xs) (.ins C ys)
  | tab {q : Str} {R : Hp} : RpM r ds (.tab q R) (.tab q R)
inductive RpA (r : Addr) (ds : List D) : Mem → Mem → Prop
  | nil : RpA r ds [] []
  | cons {a : Addr} {m m' : MO} {xs ys : Mem} (h : RpM r ds m m') (t : RpA r ds xs ys) : RpA r ds ((a, m) :: xs) ((a, m') :: ys)
inductive RpS (r : Addr) (ds : List D) : Sl → Sl → Prop
  | nil : RpS r ds [] []
  | none {y : Option D} {xs ys : Sl} (t : RpS r ds xs ys) : RpS r ds (y :: xs) (none :: ys)
  | some {d d' : D} {xs ys : Sl} (h : Rp r ds d d') (t : RpS r ds xs ys) : RpS r ds (some d :: xs) (some d' :: ys)
end Dt
set_option Elab.async false
set_option linter.all false
set_option maxRecDepth 100000
set_option maxHeartbeats 2000000
namespace Dt
open PySem PySem.Spec PyProof.Rows L2
theorem Rp.refl {r : Addr} {ds : List D} (d : D) : Rp r ds d d := .inl rfl
theorem RpL.refl {r : Addr} {ds : List D} : ∀ xs : List D, RpL r ds xs xs
  | [] => .nil
  | x :: xs => .cons (.inl rfl) (RpL.refl xs)
theorem RpF.refl {r : Addr} {ds : List D} : ∀ xs : List (Str × D), RpF r ds xs xs
  | [] => .nil
  | (f, x) :: xs => .cons (.inl rfl) (RpF.refl xs)
theorem RpM.refl {r : Addr} {ds : List D} : ∀ m : MO, RpM r ds m m
  | .lst xs => .lst (.refl xs)
  | .ins C xs => .ins (.refl xs)
  | .tab q R => .tab
theorem RpA.refl {r : Addr} {ds : List D} : ∀ M : Mem, RpA r ds M M
  | [] => .nil
  | (a, m) :: M => .cons (.refl m) (RpA.refl M)
theorem RpS.refl {r : Addr} {ds : List D} : ∀ s : Sl, RpS r ds s s
  | [] => .nil
  | Option.none :: s => .none (RpS.refl s)
  | Option.some d :: s => .some (.inl rfl) (RpS.refl s)
end Dt
set_option Elab.async false
set_option linter.all false
set_option maxRecDepth 100000
set_option maxHeartbeats 2000000
set_option Elab.async false
set_option linter.all false
set_option maxRecDepth 100000
set_option maxHeartbeats 4000000
set_option Elab.async false
set_option linter.all false
set_option maxRecDepth 100000
set_option maxHeartbeats 4000000
set_option Elab.async false
set_option linter.all false
set_option maxRecDepth 100000
set_option maxHeartbeats 4000000
set_option Elab.async false
set_option linter.all false
set_option maxRecDepth 100000
set_option maxHeartbeats 2000000
namespace Dt
open PySem PySem.Spec PyProof.Rows L2 PySem.NumText
/-- a word: short, free of blanks and line ends; a longer one than three signs begins with a letter -/
structure WdOk (w : Str) : Prop where
  ln : w.length ≤ 6
  sp : 32 ∉ TL.tl w
  nl : 10 ∉ TL.tl w
  hd : w.length ≤ 3 ∨ ∃ c r, TL.tl w = c :: r ∧ 97 ≤ c
  ch : ∀ c, c ∈ TL.tl w → c < 128
/-- a line of words -/
structure LnOk (n : Nat) (ws : List Str) : Prop where
  ne : ws ≠ []
  ln : ws.length ≤ n
  wd : ∀ w, w ∈ ws → WdOk w
theorem LnOk.len {n : Nat} {ws : List Str} (h : LnOk n ws) : (spJ ws).length ≤ n * 7 :=
  Nat.le_trans (spJ_len 6 fun p hp => (h.wd p hp).ln) (Nat.mul_le_mul_right _ h.ln)
/-- a text of lines of words -/
structure TxOk (m n : Nat) (T : List (List Str)) : Prop where
  ne : T ≠ []
  ln : T.length ≤ m
  ls : ∀ ws, ws ∈ T → LnOk n ws
def txJ (T : List (List Str)) : Str := nlJ (T.map spJ)
theorem TxOk.len {m n : Nat} {T : List (List Str)} (h : TxOk m n T) : (txJ T).length ≤ m * (n * 7 + 1) := by
  have h1 := nlJ_len (T.map spJ)
  have h2 := sumB (fun z : Str => z.length) (n * 7) (T.map spJ) fun p hp => by
    obtain ⟨ws, hw, rfl⟩ := List.mem_map.mp hp
    exact (h.ls ws hw).len
  rw [List.length_map] at h1 h2
  have h3 := h.ln
  have h4 : T.length * (n * 7 + 1) ≤ m * (n * 7 + 1) := Nat.mul_le_mul_right _ h3
  rw [Nat.mul_add] at h4
  unfold txJ
  omega
end Dt
set_option Elab.async false
set_option linter.all false
set_option maxRecDepth 100000
set_option maxHeartbeats 2000000
namespace Dt
open PySem PySem.Spec PyProof.Rows L2 LamX
section
variable {K : PySem.W.Frag} {M : Mem} {P H H1 : Hp} {k : Nat} {a : Addr} {q : Str} {R R' : Hp}
theorem code_lst {c : Addr} {xs : List V} : HO.lst xs ≠ CodeO c q := fun z => by unfold CodeO at z; cases z
theorem code_ins {c C : Addr} {dx : Addr} {fs : List (Str × V)} : HO.ins C dx fs ≠ CodeO c q := fun z => by unfold CodeO at z; cases z
theorem MOk.code {c : Addr} (m : MOk K M P H) (h : H c = some (CodeO c q)) : ∃ P1, Ex P P1 ∧ MOk K M P1 H ∧ P1 c = some (CodeO c q) := by
  cases hp : P c with
  | some o =>
    have := m.ex _ _ hp
    rw [h] at this
    exact ⟨P, Same.refl P, m, by rw [hp, Option.some.inj this]⟩
  | none =>
    have eP : Ex P (upd P c (CodeO c q)) := fun b o z => by rw [upd_ne (ne_of_none z hp)]; exact z
    refine ⟨upd P c (CodeO c q), eP, ⟨fun b o z => ?_, m.nd, fun b u hb => ?_, upd_nt m.nt (fun ps => codeO_ne ps)⟩, upd_same⟩
    · by_cases hb : b = c
      · subst hb
        rw [upd_same] at z
        rw [h]
        exact z
      · rw [upd_ne hb] at z
        exact m.ex _ _ z
    · obtain ⟨h1, h2⟩ := m.at_ b u hb
      have hbc : b ≠ c := fun z => by
        subst z
        cases u with
        | lst ds =>
          obtain ⟨xs, h3, _⟩ := h2
          rw [h] at h3
          exact code_lst (Option.some.inj h3).symm
        | ins C fs =>
          obtain ⟨dx, xs, h3, _⟩ := h2
          rw [h] at h3
          exact code_ins (Option.some.inj h3).symm
        | tab q' R2 =>
          obtain ⟨_, ps, h3, _⟩ := h2
          rw [h] at h3
          exact codeO_ne _ (Option.some.inj h3)
      exact ⟨by rw [upd_ne hbc]; exact h1, h2.mono eP rfl⟩
end
end Dt
set_option Elab.async false
set_option linter.all false
set_option maxRecDepth 100000
set_option maxHeartbeats 2000000
namespace Dt
open PySem PySem.Spec PyProof.Rows L2 LamX
section
variable {X : Cx} {Γ : Sl} {M : Mem} {ts : List Expr} {Θ : Sl → Mem → Prop} {pos : Pos} {ds : List D} {e : Expr} {Φ Φ' : VP} {Ξ : XP}
theorem WEx.mono (h : WEx X Γ M e Φ Ξ) (q : ∀ d M', Φ d M' → Φ' d M') : WEx X Γ M e Φ' Ξ := fun P σ H s m tk => (h P σ H s m tk).mono fun _ _ z => z.imp q
end
def kOf (g : Addr → Option Obj) (n : Nat) : Fg := He.frT g (cStatics :: He.asD g n)
def lookR (n : Nat) (fa : List He.Fa) (fn fx : List Df) (tf : List He.Defn) (ex : Fg → Bool) (g : Addr → Option Obj) : AlQ := lookQ fa fn fx (fun K => ex K && He.tabsB g tf K) (kOf g n)
structure ToldR (fa : List He.Fa) (fn fx : List Df) (tf : List He.Defn) (ex : Fg → Bool) (K : Fg) (h : Heap) : Prop where
  told : ToldQ fa fn fx ex K
  hd : ∀ p ∈ tf, PySem.W.codeHdIn K (He.cT K p).1 (He.cT K p).2 = true
  out : ∀ p ∈ tf, K.lookup (He.cT K p).2 = none
  empty : ∀ p ∈ tf, h.get? (He.cT K p).2 = some { cls := .none, data := .fields #[] }
theorem toldR_of {n : Nat} {fa : List He.Fa} {fn fx : List Df} {tf : List He.Defn} {ex : Fg → Bool} {h : Heap} (e : lookR n fa fn fx tf ex h.get? = wantQ fn fx) : ToldR fa fn fx tf ex (kOf h.get? n) h := by
  have t := toldQ_of e
  have hm : (ex (kOf h.get? n) && He.tabsB h.get? tf (kOf h.get? n)) = true := t.told.more
  obtain ⟨h1, h2⟩ := Bool.and_eq_true_iff.mp hm
  have key : ∀ p ∈ tf, PySem.W.codeHdIn (kOf h.get? n) (He.cT (kOf h.get? n) p).1 (He.cT (kOf h.get? n) p).2 = true ∧ ∃ o, h.get? (He.cT (kOf h.get? n) p).2 = some o ∧ He.emptyTab o = true := fun p hp => by
    obtain ⟨h3, h4⟩ := Bool.and_eq_true_iff.mp (List.all_eq_true.mp h2 p hp)
    refine ⟨h3, ?_⟩
    cases q : h.get? (He.cT (kOf h.get? n) p).2 with
    | none =>
      rw [q] at h4
      cases h4
    | some o =>
      rw [q] at h4
      exact ⟨o, rfl, h4⟩
  refine ⟨⟨⟨t.told.fact, t.told.defn, h1⟩, t.defx⟩, fun p hp => (key p hp).1, fun p hp => ?_, fun p hp => ?_⟩
  · obtain ⟨_, o, q, z⟩ := key p hp
    exact He.frT_none q z
  · obtain ⟨_, o, q, z⟩ := key p hp
    rw [q, He.emptyTab_eq z]
def hookR (n : Nat) (fa : List He.Fa) (fn fx : List Df) (tf : List He.Defn) (ex : Fg → Bool) : PySem.W.Hook where
  α := AlQ
  obs := fun s => lookR n fa fn fx tf ex s.heap.get?
  val := fun _ => wantQ fn fx
  says := fun _ h => ∃ K : Fg, K.In h ∧ ToldR fa fn fx tf ex K h
  of := fun _ _ e => ⟨_, He.frT_in, toldR_of e⟩
  keeps := fun _ _ _ ⟨K, hK, c⟩ k => ⟨K, PySem.W.Frag.In.keeps hK k, ⟨c.told, c.hd, c.out, fun p hp => k _ _ (c.empty p hp)⟩⟩
def obR (n : Nat) (fa : List He.Fa) (fn fx : List Df) (tf : List He.Defn) (ex : Fg → Bool) (s : PySem.W.SharedT) : AlQ := lookR n fa fn fx tf ex (HandSHeadRun.getT s)
end Dt
set_option Elab.async false
set_option linter.all false
set_option maxRecDepth 100000
set_option maxHeartbeats 2000000
set_option Elab.async false
set_option linter.all false
set_option maxRecDepth 100000
set_option maxHeartbeats 0
namespace Sl57
open PySem PySem.Spec PyProof.Rows L2 Dt
def topH (i : Nat) : Stmt := PySem.Challenge.pw_slipsights_k12_rows_refused.main.body.getD i (.Pass ⟨0, 0, 0, 0⟩)
abbrev Pg : Program := (PySem.Challenge.rw_slipsights_k12_rows_refused).prog
def fa : List He.Fa := [.glo "_law_deal", .glo "_law_draw", .glo "_law_pick", .glo "is_integer", .int "MOST_LETTERS" 6, .str "LETTERS" "abcdefghijklmnopqrstuvwxyz", .glo "ROW_WORDS", .glo "FAULTS", .glo "is_name", .str "DIGITS" "0123456789", .glo "number_in", .glo "is_test", .glo "is_sequence", .cls "Go", .noat "Go" "way", .noat "Go" "steps", .cls "Stop", .noat "Stop" "room", .cls "While", .noat "While" "test", .noat "While" "rows", .cls "If", .noat "If" "test", .noat "If" "rows", .noat "If" "others", .cls "See", .noat "See" "mark", .noat "See" "rows", .noat "See" "others", .glo "Row", .glo "Go", .int "MOST_STEPS" 9, .glo "WAYS", .glo "are_rows", .glo "InvalidRow", .mkr "Go", .mkr "Stop", .glo "Stop", .mkr "If", .glo "If", .mkr "See", .glo "See", .mkr "While", .glo "While", .glo "_law_some", .glo "_law_due", .exm "InvalidRow" "InvalidRow" true, .glo "SightError", .glo "InvalidPlan", .glo "_law_word", .free "len", .free "all", .free "any", .free "isinstance", .free "int", .free "bool", .free "str", .free "tuple", .free "list", .free "range", .free "enumerate", .free "zip", .free "abs", .free "max", .free "min", .free "sum", .free "sorted", .free "repr", .free "set", .glo "law"]
abbrev dx_0 : Df := ⟨locM "InvalidRow" "__init__", "__init__", "InvalidRow.__init__", defArgs (inClass (topH 2) 0), defBody (inClass (topH 2) 0), defScope (inClass (topH 2) 0), [], []⟩
def fx : List Df := [dx_0]
def fn : List Df := [⟨locG "_law_deal", "_law_deal", "_law_deal", defArgs (topH 28), defBody (topH 28), defScope (topH 28), [], []⟩,
  ⟨locG "_law_draw", "_law_draw", "_law_draw", defArgs (topH 29), defBody (topH 29), defScope (topH 29), [], []⟩,
  ⟨locG "_law_pick", "_law_pick", "_law_pick", defArgs (topH 30), defBody (topH 30), defScope (topH 30), [], []⟩,
  ⟨locG "is_integer", "is_integer", "is_integer", defArgs (topH 10), defBody (topH 10), defScope (topH 10), [], []⟩,
  ⟨locG "is_name", "is_name", "is_name", defArgs (topH 12), defBody (topH 12), defScope (topH 12), [], []⟩,
  ⟨locG "number_in", "number_in", "number_in", defArgs (topH 13), defBody (topH 13), defScope (topH 13), [], []⟩,
  ⟨locG "is_test", "is_test", "is_test", defArgs (topH 17), defBody (topH 17), defScope (topH 17), [], []⟩,
  ⟨locG "is_sequence", "is_sequence", "is_sequence", defArgs (topH 11), defBody (topH 11), defScope (topH 11), [], []⟩,
  ⟨locG "are_rows", "are_rows", "are_rows", defArgs (topH 19), defBody (topH 19), defScope (topH 19), [], []⟩,
  ⟨locM "Go" "__init__", "__init__", "Go.__init__", defArgs (inClass (topH 21) 0), defBody (inClass (topH 21) 0), defScope (inClass (topH 21) 0), [], []⟩,
  ⟨locM "Stop" "__init__", "__init__", "Stop.__init__", defArgs (inClass (topH 25) 0), defBody (inClass (topH 25) 0), defScope (inClass (topH 25) 0), [], []⟩,
  ⟨locM "If" "__init__", "__init__", "If.__init__", defArgs (inClass (topH 22) 0), defBody (inClass (topH 22) 0), defScope (inClass (topH 22) 0), [He.Dv.adr (He.dflAt ("If", some "__init__") 0)], []⟩,
  ⟨locM "See" "__init__", "__init__", "See.__init__", defArgs (inClass (topH 24) 0), defBody (inClass (topH 24) 0), defScope (inClass (topH 24) 0), [He.Dv.adr (He.dflAt ("See", some "__init__") 0)], []⟩,
  ⟨locM "While" "__init__", "__init__", "While.__init__", defArgs (inClass (topH 23) 0), defBody (inClass (topH 23) 0), defScope (inClass (topH 23) 0), [], []⟩,
  ⟨locG "_law_some", "_law_some", "_law_some", defArgs (topH 33), defBody (topH 33), defScope (topH 33), [], []⟩,
  ⟨locG "_law_due", "_law_due", "_law_due", defArgs (topH 32), defBody (topH 32), defScope (topH 32), [], []⟩,
  ⟨locG "_law_word", "_law_word", "_law_word", defArgs (topH 31), defBody (topH 31), defScope (topH 31), [], []⟩,
  ⟨locG "law", "law", "law", defArgs (topH 34), defBody (topH 34), defScope (topH 34), [], []⟩]
def ex (K : Fg) : Bool := (He.tupB K "ROW_WORDS" [.str "start", .str "go", .str "if", .str "else", .str "while", .str "see", .str "stop", .str "end", .str "never"]) && (He.tupB K "FAULTS" [.str "astray", .str "barred", .str "endless", .str "halted"]) && (isB K "Go") && (decide (PySem.W.kitOne K (.ref (He.ga K "Go")) (.ref (He.ga K "Row")) = some true)) && (isB K "Stop") && (decide (PySem.W.kitOne K (.ref (He.ga K "Stop")) (.ref (He.ga K "Row")) = some true)) && (isB K "While") && (decide (PySem.W.kitOne K (.ref (He.ga K "While")) (.ref (He.ga K "Row")) = some true)) && (isB K "If") && (decide (PySem.W.kitOne K (.ref (He.ga K "If")) (.ref (He.ga K "Row")) = some true)) && (isB K "See") && (decide (PySem.W.kitOne K (.ref (He.ga K "See")) (.ref (He.ga K "Row")) = some true)) && (He.tupB K "WAYS" [.str "east", .str "north", .str "west", .str "south"]) && (supB Pg.main.file K (He.ga K "InvalidRow") "word" "InvalidRow.__init__") && (nilB K (He.dflAt ("If", some "__init__") 0 K)) && (nilB K (He.dflAt ("See", some "__init__") 0 K)) && (decide (PySem.W.kitOne K (.type "str") (.ref (He.ga K "Row")) = some false)) && (decide (PySem.W.kitOne K (.type "NoneType") (.ref (He.ga K "Row")) = some false)) && (decide (PySem.W.kitOne K (.type "list") (.ref (He.ga K "Row")) = some false)) && (decide (PySem.W.kitOne K (.ref (He.ga K "Go")) (.type "list") = some false)) && (decide (PySem.W.kitOne K (.ref (He.ga K "Go")) (.type "tuple") = some false)) && (decide (PySem.W.kitOne K (.ref (He.ga K "Go")) (.ref (He.ga K "Go")) = some true)) && (decide (PySem.W.kitOne K (.ref (He.ga K "Stop")) (.ref (He.ga K "Go")) = some false)) && (decide (PySem.W.kitOne K (.ref (He.ga K "If")) (.ref (He.ga K "Go")) = some false)) && (decide (PySem.W.kitOne K (.ref (He.ga K "InvalidRow")) (.ref (He.ga K "SightError")) = some true)) && (decide (PySem.W.kitOne K (.ref (He.ga K "InvalidRow")) (.ref (He.ga K "InvalidPlan")) = some false)) && (xcB K (He.ga K "InvalidRow") "word")
abbrev R : PySem.W.OpenRow := PySem.W.OpenLaw.row PySem.Challenge.rw_slipsights_k12_rows_refused
abbrev hk : PySem.W.Hook := hookR 6 fa fn fx [("law", none)] ex
def ob : PySem.W.SharedT → AlQ := obR 6 fa fn fx [("law", none)] ex
def loose : List PySem.Str := ["SightError", "InvalidRow", "InvalidPlan", "FAULTS", "ROW_WORDS", "LETTERS", "DIGITS", "MOST_LETTERS", "is_integer", "is_sequence", "is_name", "number_in", "WAYS", "MOST_STEPS", "is_test", "Row", "are_rows", "lines_of", "Go", "If", "While", "See", "Stop", "block_lines", "_law_deal", "_law_draw", "_law_pick", "_law_word", "_law_due", "_law_some"]
theorem run (w : World) : HandSHeadRun.RunEq R (PySem.W.view R.prog [34]) hk ob 20000 loose w := by
  intro os
  kernel_rfl
end Sl57
set_option Elab.async false
set_option linter.all false
set_option maxRecDepth 100000
set_option maxHeartbeats 1000000
namespace Sl57
open PySem PySem.Spec PyProof.Rows L2 Dt
set_option hygiene false
local macro_rules | `(tactic| walk_at "op") => `(tactic| (first
  | refine od_add ?_ | refine od_sub ?_ | refine od_lt ?_ | refine od_le ?_ | refine od_gt ?_ | refine od_ge ?_ | refine od_eq ?_ | refine od_ne ?_ | refine od_is ?_ | refine od_isn ?_
  | refine od_eqS ?_ | refine od_neS ?_ | refine od_eqB ?_ | refine od_neB ?_))
local macro_rules | `(tactic| walk_at "dead") => `(tactic| (first
  | (cases hb; done)
  | (exact absurd (show false = true from hb) (by decide))
  | (exact absurd (show true = false from hb) (by decide))
  | (exact absurd hb (by decide))
  | (exfalso; simp only [decide_eq_true_eq, decide_eq_false_iff_not, Bool.not_eq_true', Bool.not_eq_false'] at hb; omega)))
local macro_rules | `(tactic| walk_at "tidy") => `(tactic| (try simp only [decide_eq_true_eq, decide_eq_false_iff_not, Bool.not_eq_true', Bool.not_eq_false'] at hb))
local macro_rules | `(tactic| walk_at "truth") => `(tactic| (first | refine tr_bl ?_ | refine tr_lst ?_ | refine tr_tup ?_ | refine tr_non ?_ | refine tr_int ?_))
local macro_rules | `(tactic| walk_at "ix") => `(tactic| (first
  | refine ix_tup (j := 0) rfl rfl ?_ | refine ix_tup (j := 1) rfl rfl ?_ | refine ix_tup (j := 2) rfl rfl ?_
  | refine ix_lst (j := 0) rfl rfl ?_ | refine ix_lst (j := 1) rfl rfl ?_ | refine ix_lst (j := 2) rfl rfl ?_
  | refine ix_own (k := 0) (j := 0) rfl rfl rfl ?_
  | refine ix_own (k := 0) (j := 1) rfl rfl rfl ?_
  | refine ix_own (k := 0) (j := 2) rfl rfl rfl ?_
  | refine ix_own (k := 1) (j := 0) rfl rfl rfl ?_
  | refine ix_own (k := 1) (j := 1) rfl rfl rfl ?_
  | refine ix_own (k := 1) (j := 2) rfl rfl rfl ?_
  | refine ix_own (k := 2) (j := 0) rfl rfl rfl ?_
  | refine ix_own (k := 2) (j := 1) rfl rfl rfl ?_
  | refine ix_own (k := 2) (j := 2) rfl rfl rfl ?_
  | refine ix_own (k := 3) (j := 0) rfl rfl rfl ?_
  | refine ix_own (k := 3) (j := 1) rfl rfl rfl ?_
  | refine ix_own (k := 3) (j := 2) rfl rfl rfl ?_
  | refine ix_own (k := 4) (j := 0) rfl rfl rfl ?_
  | refine ix_own (k := 4) (j := 1) rfl rfl rfl ?_
  | refine ix_own (k := 4) (j := 2) rfl rfl rfl ?_
  | refine ix_own (k := 5) (j := 0) rfl rfl rfl ?_
  | refine ix_own (k := 5) (j := 1) rfl rfl rfl ?_
  | refine ix_own (k := 5) (j := 2) rfl rfl rfl ?_
  | refine ix_own (k := 6) (j := 0) rfl rfl rfl ?_
  | refine ix_own (k := 6) (j := 1) rfl rfl rfl ?_
  | refine ix_own (k := 6) (j := 2) rfl rfl rfl ?_
  | refine ix_own (k := 7) (j := 0) rfl rfl rfl ?_
  | refine ix_own (k := 7) (j := 1) rfl rfl rfl ?_
  | refine ix_own (k := 7) (j := 2) rfl rfl rfl ?_
  | refine ix_own (k := 8) (j := 0) rfl rfl rfl ?_
  | refine ix_own (k := 8) (j := 1) rfl rfl rfl ?_
  | refine ix_own (k := 8) (j := 2) rfl rfl rfl ?_
  | refine ix_own (k := 9) (j := 0) rfl rfl rfl ?_
  | refine ix_own (k := 9) (j := 1) rfl rfl rfl ?_
  | refine ix_own (k := 9) (j := 2) rfl rfl rfl ?_
  | refine ix_own (k := 10) (j := 0) rfl rfl rfl ?_
  | refine ix_own (k := 10) (j := 1) rfl rfl rfl ?_
  | refine ix_own (k := 10) (j := 2) rfl rfl rfl ?_
  | refine ix_own (k := 11) (j := 0) rfl rfl rfl ?_
  | refine ix_own (k := 11) (j := 1) rfl rfl rfl ?_
  | refine ix_own (k := 11) (j := 2) rfl rfl rfl ?_
  | refine ix_own (k := 12) (j := 0) rfl rfl rfl ?_
  | refine ix_own (k := 12) (j := 1) rfl rfl rfl ?_
  | refine ix_own (k := 12) (j := 2) rfl rfl rfl ?_
  | refine ix_own (k := 13) (j := 0) rfl rfl rfl ?_
  | refine ix_own (k := 13) (j := 1) rfl rfl rfl ?_
  | refine ix_own (k := 13) (j := 2) rfl rfl rfl ?_))
local macro_rules | `(tactic| walk_at "seti") => `(tactic| (first
  | refine ⟨0, 0, _, _, _, rfl, rfl, rfl, rfl, of_decide_eq_true rfl, ?_⟩
  | refine ⟨0, 1, _, _, _, rfl, rfl, rfl, rfl, of_decide_eq_true rfl, ?_⟩
  | refine ⟨0, 2, _, _, _, rfl, rfl, rfl, rfl, of_decide_eq_true rfl, ?_⟩
  | refine ⟨1, 0, _, _, _, rfl, rfl, rfl, rfl, of_decide_eq_true rfl, ?_⟩
  | refine ⟨1, 1, _, _, _, rfl, rfl, rfl, rfl, of_decide_eq_true rfl, ?_⟩
  | refine ⟨1, 2, _, _, _, rfl, rfl, rfl, rfl, of_decide_eq_true rfl, ?_⟩
  | refine ⟨2, 0, _, _, _, rfl, rfl, rfl, rfl, of_decide_eq_true rfl, ?_⟩
  | refine ⟨2, 1, _, _, _, rfl, rfl, rfl, rfl, of_decide_eq_true rfl, ?_⟩
  | refine ⟨2, 2, _, _, _, rfl, rfl, rfl, rfl, of_decide_eq_true rfl, ?_⟩
  | refine ⟨3, 0, _, _, _, rfl, rfl, rfl, rfl, of_decide_eq_true rfl, ?_⟩
  | refine ⟨3, 1, _, _, _, rfl, rfl, rfl, rfl, of_decide_eq_true rfl, ?_⟩
  | refine ⟨3, 2, _, _, _, rfl, rfl, rfl, rfl, of_decide_eq_true rfl, ?_⟩
  | refine ⟨4, 0, _, _, _, rfl, rfl, rfl, rfl, of_decide_eq_true rfl, ?_⟩
  | refine ⟨4, 1, _, _, _, rfl, rfl, rfl, rfl, of_decide_eq_true rfl, ?_⟩
  | refine ⟨4, 2, _, _, _, rfl, rfl, rfl, rfl, of_decide_eq_true rfl, ?_⟩
  | refine ⟨5, 0, _, _, _, rfl, rfl, rfl, rfl, of_decide_eq_true rfl, ?_⟩
  | refine ⟨5, 1, _, _, _, rfl, rfl, rfl, rfl, of_decide_eq_true rfl, ?_⟩
  | refine ⟨5, 2, _, _, _, rfl, rfl, rfl, rfl, of_decide_eq_true rfl, ?_⟩
  | refine ⟨6, 0, _, _, _, rfl, rfl, rfl, rfl, of_decide_eq_true rfl, ?_⟩
  | refine ⟨6, 1, _, _, _, rfl, rfl, rfl, rfl, of_decide_eq_true rfl, ?_⟩
  | refine ⟨6, 2, _, _, _, rfl, rfl, rfl, rfl, of_decide_eq_true rfl, ?_⟩
  | refine ⟨7, 0, _, _, _, rfl, rfl, rfl, rfl, of_decide_eq_true rfl, ?_⟩
  | refine ⟨7, 1, _, _, _, rfl, rfl, rfl, rfl, of_decide_eq_true rfl, ?_⟩
  | refine ⟨7, 2, _, _, _, rfl, rfl, rfl, rfl, of_decide_eq_true rfl, ?_⟩
  | refine ⟨8, 0, _, _, _, rfl, rfl, rfl, rfl, of_decide_eq_true rfl, ?_⟩
  | refine ⟨8, 1, _, _, _, rfl, rfl, rfl, rfl, of_decide_eq_true rfl, ?_⟩
  | refine ⟨8, 2, _, _, _, rfl, rfl, rfl, rfl, of_decide_eq_true rfl, ?_⟩
  | refine ⟨9, 0, _, _, _, rfl, rfl, rfl, rfl, of_decide_eq_true rfl, ?_⟩
  | refine ⟨9, 1, _, _, _, rfl, rfl, rfl, rfl, of_decide_eq_true rfl, ?_⟩
  | refine ⟨9, 2, _, _, _, rfl, rfl, rfl, rfl, of_decide_eq_true rfl, ?_⟩
  | refine ⟨10, 0, _, _, _, rfl, rfl, rfl, rfl, of_decide_eq_true rfl, ?_⟩
  | refine ⟨10, 1, _, _, _, rfl, rfl, rfl, rfl, of_decide_eq_true rfl, ?_⟩
  | refine ⟨10, 2, _, _, _, rfl, rfl, rfl, rfl, of_decide_eq_true rfl, ?_⟩
  | refine ⟨11, 0, _, _, _, rfl, rfl, rfl, rfl, of_decide_eq_true rfl, ?_⟩
  | refine ⟨11, 1, _, _, _, rfl, rfl, rfl, rfl, of_decide_eq_true rfl, ?_⟩
  | refine ⟨11, 2, _, _, _, rfl, rfl, rfl, rfl, of_decide_eq_true rfl, ?_⟩
  | refine ⟨12, 0, _, _, _, rfl, rfl, rfl, rfl, of_decide_eq_true rfl, ?_⟩
  | refine ⟨12, 1, _, _, _, rfl, rfl, rfl, rfl, of_decide_eq_true rfl, ?_⟩
  | refine ⟨12, 2, _, _, _, rfl, rfl, rfl, rfl, of_decide_eq_true rfl, ?_⟩
  | refine ⟨13, 0, _, _, _, rfl, rfl, rfl, rfl, of_decide_eq_true rfl, ?_⟩
  | refine ⟨13, 1, _, _, _, rfl, rfl, rfl, rfl, of_decide_eq_true rfl, ?_⟩
  | refine ⟨13, 2, _, _, _, rfl, rfl, rfl, rfl, of_decide_eq_true rfl, ?_⟩))
local macro_rules | `(tactic| walk_at "lst") => `(tactic| (first
  | refine cd_list (.inr (.inr ⟨0, _, rfl, rfl⟩)) ?_
  | refine cd_list (.inr (.inr ⟨1, _, rfl, rfl⟩)) ?_
  | refine cd_list (.inr (.inr ⟨2, _, rfl, rfl⟩)) ?_
  | refine cd_list (.inr (.inr ⟨3, _, rfl, rfl⟩)) ?_
  | refine cd_list (.inr (.inr ⟨4, _, rfl, rfl⟩)) ?_
  | refine cd_list (.inr (.inr ⟨5, _, rfl, rfl⟩)) ?_
  | refine cd_list (.inr (.inr ⟨6, _, rfl, rfl⟩)) ?_
  | refine cd_list (.inr (.inr ⟨7, _, rfl, rfl⟩)) ?_
  | refine cd_list (.inr (.inr ⟨8, _, rfl, rfl⟩)) ?_
  | refine cd_list (.inr (.inr ⟨9, _, rfl, rfl⟩)) ?_
  | refine cd_list (.inr (.inr ⟨10, _, rfl, rfl⟩)) ?_
  | refine cd_list (.inr (.inr ⟨11, _, rfl, rfl⟩)) ?_
  | refine cd_list (.inr (.inr ⟨12, _, rfl, rfl⟩)) ?_
  | refine cd_list (.inr (.inr ⟨13, _, rfl, rfl⟩)) ?_))
local macro_rules | `(tactic| walk_at "isi") => `(tactic| (first | refine cd_isi (k := true) rfl (by decide +kernel) ?_ | refine cd_isi (k := false) rfl (by decide +kernel) ?_))
local macro_rules | `(tactic| walk_at "size") => `(tactic| (first
  | exact (show 0 ≤ sizeLine by decide) | exact (show 1 ≤ sizeLine by decide) | exact (show 2 ≤ sizeLine by decide) | exact (show 3 ≤ sizeLine by decide) | exact (show 4 ≤ sizeLine by decide) | exact (show 5 ≤ sizeLine by decide) | exact (show 6 ≤ sizeLine by decide) | exact (of_decide_eq_true rfl) | exact (Nat.le_of_ble_eq_true rfl)))
end Sl57
set_option Elab.async false
set_option linter.all false
set_option maxRecDepth 100000
set_option maxHeartbeats 4000000
namespace Sl57
open PySem PySem.Spec PyProof.Rows L2 Dt
set_option hygiene false
local macro_rules | `(tactic| walk_at "op") => `(tactic| (first
  | refine od_add ?_ | refine od_sub ?_ | refine od_lt ?_ | refine od_le ?_ | refine od_gt ?_ | refine od_ge ?_ | refine od_eq ?_ | refine od_ne ?_ | refine od_is ?_ | refine od_isn ?_
  | refine od_eqS ?_ | refine od_neS ?_ | refine od_eqB ?_ | refine od_neB ?_))
local macro_rules | `(tactic| walk_at "dead") => `(tactic| (first
  | (cases hb; done)
  | (exact absurd (show false = true from hb) (by decide))
  | (exact absurd (show true = false from hb) (by decide))
  | (exact absurd hb (by decide))
  | (exfalso; simp only [decide_eq_true_eq, decide_eq_false_iff_not, Bool.not_eq_true', Bool.not_eq_false'] at hb; omega)))
local macro_rules | `(tactic| walk_at "tidy") => `(tactic| (try simp only [decide_eq_true_eq, decide_eq_false_iff_not, Bool.not_eq_true', Bool.not_eq_false'] at hb))
local macro_rules | `(tactic| walk_at "truth") => `(tactic| (first | refine tr_bl ?_ | refine tr_lst ?_ | refine tr_tup ?_ | refine tr_non ?_ | refine tr_int ?_))
local macro_rules | `(tactic| walk_at "ix") => `(tactic| (first
  | refine ix_tup (j := 0) rfl rfl ?_ | refine ix_tup (j := 1) rfl rfl ?_ | refine ix_tup (j := 2) rfl rfl ?_
  | refine ix_lst (j := 0) rfl rfl ?_ | refine ix_lst (j := 1) rfl rfl ?_ | refine ix_lst (j := 2) rfl rfl ?_
  | refine ix_own (k := 0) (j := 0) rfl rfl rfl ?_
  | refine ix_own (k := 0) (j := 1) rfl rfl rfl ?_
  | refine ix_own (k := 0) (j := 2) rfl rfl rfl ?_
  | refine ix_own (k := 1) (j := 0) rfl rfl rfl ?_
  | refine ix_own (k := 1) (j := 1) rfl rfl rfl ?_
  | refine ix_own (k := 1) (j := 2) rfl rfl rfl ?_
  | refine ix_own (k := 2) (j := 0) rfl rfl rfl ?_
  | refine ix_own (k := 2) (j := 1) rfl rfl rfl ?_
  | refine ix_own (k := 2) (j := 2) rfl rfl rfl ?_
  | refine ix_own (k := 3) (j := 0) rfl rfl rfl ?_
  | refine ix_own (k := 3) (j := 1) rfl rfl rfl ?_
  | refine ix_own (k := 3) (j := 2) rfl rfl rfl ?_
  | refine ix_own (k := 4) (j := 0) rfl rfl rfl ?_
  | refine ix_own (k := 4) (j := 1) rfl rfl rfl ?_
  | refine ix_own (k := 4) (j := 2) rfl rfl rfl ?_
  | refine ix_own (k := 5) (j := 0) rfl rfl rfl ?_
  | refine ix_own (k := 5) (j := 1) rfl rfl rfl ?_
  | refine ix_own (k := 5) (j := 2) rfl rfl rfl ?_
  | refine ix_own (k := 6) (j := 0) rfl rfl rfl ?_
  | refine ix_own (k := 6) (j := 1) rfl rfl rfl ?_
  | refine ix_own (k := 6) (j := 2) rfl rfl rfl ?_
  | refine ix_own (k := 7) (j := 0) rfl rfl rfl ?_
  | refine ix_own (k := 7) (j := 1) rfl rfl rfl ?_
  | refine ix_own (k := 7) (j := 2) rfl rfl rfl ?_
  | refine ix_own (k := 8) (j := 0) rfl rfl rfl ?_
  | refine ix_own (k := 8) (j := 1) rfl rfl rfl ?_
  | refine ix_own (k := 8) (j := 2) rfl rfl rfl ?_
  | refine ix_own (k := 9) (j := 0) rfl rfl rfl ?_
  | refine ix_own (k := 9) (j := 1) rfl rfl rfl ?_
  | refine ix_own (k := 9) (j := 2) rfl rfl rfl ?_
  | refine ix_own (k := 10) (j := 0) rfl rfl rfl ?_
  | refine ix_own (k := 10) (j := 1) rfl rfl rfl ?_
  | refine ix_own (k := 10) (j := 2) rfl rfl rfl ?_
  | refine ix_own (k := 11) (j := 0) rfl rfl rfl ?_
  | refine ix_own (k := 11) (j := 1) rfl rfl rfl ?_
  | refine ix_own (k := 11) (j := 2) rfl rfl rfl ?_
  | refine ix_own (k := 12) (j := 0) rfl rfl rfl ?_
  | refine ix_own (k := 12) (j := 1) rfl rfl rfl ?_
  | refine ix_own (k := 12) (j := 2) rfl rfl rfl ?_
  | refine ix_own (k := 13) (j := 0) rfl rfl rfl ?_
  | refine ix_own (k := 13) (j := 1) rfl rfl rfl ?_
  | refine ix_own (k := 13) (j := 2) rfl rfl rfl ?_))
local macro_rules | `(tactic| walk_at "seti") => `(tactic| (first
  | refine ⟨0, 0, _, _, _, rfl, rfl, rfl, rfl, of_decide_eq_true rfl, ?_⟩
  | refine ⟨0, 1, _, _, _, rfl, rfl, rfl, rfl, of_decide_eq_true rfl, ?_⟩
  | refine ⟨0, 2, _, _, _, rfl, rfl, rfl, rfl, of_decide_eq_true rfl, ?_⟩
  | refine ⟨1, 0, _, _, _, rfl, rfl, rfl, rfl, of_decide_eq_true rfl, ?_⟩
  | refine ⟨1, 1, _, _, _, rfl, rfl, rfl, rfl, of_decide_eq_true rfl, ?_⟩
  | refine ⟨1, 2, _, _, _, rfl, rfl, rfl, rfl, of_decide_eq_true rfl, ?_⟩
  | refine ⟨2, 0, _, _, _, rfl, rfl, rfl, rfl, of_decide_eq_true rfl, ?_⟩
  | refine ⟨2, 1, _, _, _, rfl, rfl, rfl, rfl, of_decide_eq_true rfl, ?_⟩
  | refine ⟨2, 2, _, _, _, rfl, rfl, rfl, rfl, of_decide_eq_true rfl, ?_⟩
  | refine ⟨3, 0, _, _, _, rfl, rfl, rfl, rfl, of_decide_eq_true rfl, ?_⟩
  | refine ⟨3, 1, _, _, _, rfl, rfl, rfl, rfl, of_decide_eq_true rfl, ?_⟩
  | refine ⟨3, 2, _, _, _, rfl, rfl, rfl, rfl, of_decide_eq_true rfl, ?_⟩
  | refine ⟨4, 0, _, _, _, rfl, rfl, rfl, rfl, of_decide_eq_true rfl, ?_⟩
  | refine ⟨4, 1, _, _, _, rfl, rfl, rfl, rfl, of_decide_eq_true rfl, ?_⟩
  | refine ⟨4, 2, _, _, _, rfl, rfl, rfl, rfl, of_decide_eq_true rfl, ?_⟩
  | refine ⟨5, 0, _, _, _, rfl, rfl, rfl, rfl, of_decide_eq_true rfl, ?_⟩
  | refine ⟨5, 1, _, _, _, rfl, rfl, rfl, rfl, of_decide_eq_true rfl, ?_⟩
  | refine ⟨5, 2, _, _, _, rfl, rfl, rfl, rfl, of_decide_eq_true rfl, ?_⟩
  | refine ⟨6, 0, _, _, _, rfl, rfl, rfl, rfl, of_decide_eq_true rfl, ?_⟩
  | refine ⟨6, 1, _, _, _, rfl, rfl, rfl, rfl, of_decide_eq_true rfl, ?_⟩
  | refine ⟨6, 2, _, _, _, rfl, rfl, rfl, rfl, of_decide_eq_true rfl, ?_⟩
  | refine ⟨7, 0, _, _, _, rfl, rfl, rfl, rfl, of_decide_eq_true rfl, ?_⟩
  | refine ⟨7, 1, _, _, _, rfl, rfl, rfl, rfl, of_decide_eq_true rfl, ?_⟩
  | refine ⟨7, 2, _, _, _, rfl, rfl, rfl, rfl, of_decide_eq_true rfl, ?_⟩
  | refine ⟨8, 0, _, _, _, rfl, rfl, rfl, rfl, of_decide_eq_true rfl, ?_⟩
  | refine ⟨8, 1, _, _, _, rfl, rfl, rfl, rfl, of_decide_eq_true rfl, ?_⟩
  | refine ⟨8, 2, _, _, _, rfl, rfl, rfl, rfl, of_decide_eq_true rfl, ?_⟩
  | refine ⟨9, 0, _, _, _, rfl, rfl, rfl, rfl, of_decide_eq_true rfl, ?_⟩
  | refine ⟨9, 1, _, _, _, rfl, rfl, rfl, rfl, of_decide_eq_true rfl, ?_⟩
  | refine ⟨9, 2, _, _, _, rfl, rfl, rfl, rfl, of_decide_eq_true rfl, ?_⟩
  | refine ⟨10, 0, _, _, _, rfl, rfl, rfl, rfl, of_decide_eq_true rfl, ?_⟩
  | refine ⟨10, 1, _, _, _, rfl, rfl, rfl, rfl, of_decide_eq_true rfl, ?_⟩
  | refine ⟨10, 2, _, _, _, rfl, rfl, rfl, rfl, of_decide_eq_true rfl, ?_⟩
  | refine ⟨11, 0, _, _, _, rfl, rfl, rfl, rfl, of_decide_eq_true rfl, ?_⟩
  | refine ⟨11, 1, _, _, _, rfl, rfl, rfl, rfl, of_decide_eq_true rfl, ?_⟩
  | refine ⟨11, 2, _, _, _, rfl, rfl, rfl, rfl, of_decide_eq_true rfl, ?_⟩
  | refine ⟨12, 0, _, _, _, rfl, rfl, rfl, rfl, of_decide_eq_true rfl, ?_⟩
  | refine ⟨12, 1, _, _, _, rfl, rfl, rfl, rfl, of_decide_eq_true rfl, ?_⟩
  | refine ⟨12, 2, _, _, _, rfl, rfl, rfl, rfl, of_decide_eq_true rfl, ?_⟩
  | refine ⟨13, 0, _, _, _, rfl, rfl, rfl, rfl, of_decide_eq_true rfl, ?_⟩
  | refine ⟨13, 1, _, _, _, rfl, rfl, rfl, rfl, of_decide_eq_true rfl, ?_⟩
  | refine ⟨13, 2, _, _, _, rfl, rfl, rfl, rfl, of_decide_eq_true rfl, ?_⟩))
local macro_rules | `(tactic| walk_at "lst") => `(tactic| (first
  | refine cd_list (.inr (.inr ⟨0, _, rfl, rfl⟩)) ?_
  | refine cd_list (.inr (.inr ⟨1, _, rfl, rfl⟩)) ?_
  | refine cd_list (.inr (.inr ⟨2, _, rfl, rfl⟩)) ?_
  | refine cd_list (.inr (.inr ⟨3, _, rfl, rfl⟩)) ?_
  | refine cd_list (.inr (.inr ⟨4, _, rfl, rfl⟩)) ?_
  | refine cd_list (.inr (.inr ⟨5, _, rfl, rfl⟩)) ?_
  | refine cd_list (.inr (.inr ⟨6, _, rfl, rfl⟩)) ?_
  | refine cd_list (.inr (.inr ⟨7, _, rfl, rfl⟩)) ?_
  | refine cd_list (.inr (.inr ⟨8, _, rfl, rfl⟩)) ?_
  | refine cd_list (.inr (.inr ⟨9, _, rfl, rfl⟩)) ?_
  | refine cd_list (.inr (.inr ⟨10, _, rfl, rfl⟩)) ?_
  | refine cd_list (.inr (.inr ⟨11, _, rfl, rfl⟩)) ?_
  | refine cd_list (.inr (.inr ⟨12, _, rfl, rfl⟩)) ?_
  | refine cd_list (.inr (.inr ⟨13, _, rfl, rfl⟩)) ?_))
local macro_rules | `(tactic| walk_at "isi") => `(tactic| (first | refine cd_isi (k := true) rfl (by decide +kernel) ?_ | refine cd_isi (k := false) rfl (by decide +kernel) ?_))
local macro_rules | `(tactic| walk_at "size") => `(tactic| (first
  | exact (show 0 ≤ sizeLine by decide) | exact (show 1 ≤ sizeLine by decide) | exact (show 2 ≤ sizeLine by decide) | exact (show 3 ≤ sizeLine by decide) | exact (show 4 ≤ sizeLine by decide) | exact (show 5 ≤ sizeLine by decide) | exact (show 6 ≤ sizeLine by decide) | exact (of_decide_eq_true rfl) | exact (Nat.le_of_ble_eq_true rfl)))
end Sl57
set_option Elab.async false
set_option linter.all false
set_option maxRecDepth 100000
set_option maxHeartbeats 4000000
namespace Sl57
open PySem PySem.Spec PyProof.Rows L2 Dt
set_option hygiene false
local macro_rules | `(tactic| walk_at "op") => `(tactic| (first
  | refine od_add ?_ | refine od_sub ?_ | refine od_lt ?_ | refine od_le ?_ | refine od_gt ?_ | refine od_ge ?_ | refine od_eq ?_ | refine od_ne ?_ | refine od_is ?_ | refine od_isn ?_
  | refine od_eqS ?_ | refine od_neS ?_ | refine od_eqB ?_ | refine od_neB ?_))
local macro_rules | `(tactic| walk_at "dead") => `(tactic| (first
  | (cases hb; done)
  | (exact absurd (show false = true from hb) (by decide))
  | (exact absurd (show true = false from hb) (by decide))
  | (exact absurd hb (by decide))
  | (exfalso; simp only [decide_eq_true_eq, decide_eq_false_iff_not, Bool.not_eq_true', Bool.not_eq_false'] at hb; omega)))
local macro_rules | `(tactic| walk_at "tidy") => `(tactic| (try simp only [decide_eq_true_eq, decide_eq_false_iff_not, Bool.not_eq_true', Bool.not_eq_false'] at hb))
local macro_rules | `(tactic| walk_at "truth") => `(tactic| (first | refine tr_bl ?_ | refine tr_lst ?_ | refine tr_tup ?_ | refine tr_non ?_ | refine tr_int ?_))
local macro_rules | `(tactic| walk_at "ix") => `(tactic| (first
  | refine ix_tup (j := 0) rfl rfl ?_ | refine ix_tup (j := 1) rfl rfl ?_ | refine ix_tup (j := 2) rfl rfl ?_
  | refine ix_lst (j := 0) rfl rfl ?_ | refine ix_lst (j := 1) rfl rfl ?_ | refine ix_lst (j := 2) rfl rfl ?_
  | refine ix_own (k := 0) (j := 0) rfl rfl rfl ?_
  | refine ix_own (k := 0) (j := 1) rfl rfl rfl ?_
  | refine ix_own (k := 0) (j := 2) rfl rfl rfl ?_
  | refine ix_own (k := 1) (j := 0) rfl rfl rfl ?_
  | refine ix_own (k := 1) (j := 1) rfl rfl rfl ?_
  | refine ix_own (k := 1) (j := 2) rfl rfl rfl ?_
  | refine ix_own (k := 2) (j := 0) rfl rfl rfl ?_
  | refine ix_own (k := 2) (j := 1) rfl rfl rfl ?_
  | refine ix_own (k := 2) (j := 2) rfl rfl rfl ?_
  | refine ix_own (k := 3) (j := 0) rfl rfl rfl ?_
  | refine ix_own (k := 3) (j := 1) rfl rfl rfl ?_
  | refine ix_own (k := 3) (j := 2) rfl rfl rfl ?_
  | refine ix_own (k := 4) (j := 0) rfl rfl rfl ?_
  | refine ix_own (k := 4) (j := 1) rfl rfl rfl ?_
  | refine ix_own (k := 4) (j := 2) rfl rfl rfl ?_
  | refine ix_own (k := 5) (j := 0) rfl rfl rfl ?_
  | refine ix_own (k := 5) (j := 1) rfl rfl rfl ?_
  | refine ix_own (k := 5) (j := 2) rfl rfl rfl ?_
  | refine ix_own (k := 6) (j := 0) rfl rfl rfl ?_
  | refine ix_own (k := 6) (j := 1) rfl rfl rfl ?_
  | refine ix_own (k := 6) (j := 2) rfl rfl rfl ?_
  | refine ix_own (k := 7) (j := 0) rfl rfl rfl ?_
  | refine ix_own (k := 7) (j := 1) rfl rfl rfl ?_
  | refine ix_own (k := 7) (j := 2) rfl rfl rfl ?_
  | refine ix_own (k := 8) (j := 0) rfl rfl rfl ?_
  | refine ix_own (k := 8) (j := 1) rfl rfl rfl ?_
  | refine ix_own (k := 8) (j := 2) rfl rfl rfl ?_
  | refine ix_own (k := 9) (j := 0) rfl rfl rfl ?_
  | refine ix_own (k := 9) (j := 1) rfl rfl rfl ?_
  | refine ix_own (k := 9) (j := 2) rfl rfl rfl ?_
  | refine ix_own (k := 10) (j := 0) rfl rfl rfl ?_
  | refine ix_own (k := 10) (j := 1) rfl rfl rfl ?_
  | refine ix_own (k := 10) (j := 2) rfl rfl rfl ?_
  | refine ix_own (k := 11) (j := 0) rfl rfl rfl ?_
  | refine ix_own (k := 11) (j := 1) rfl rfl rfl ?_
  | refine ix_own (k := 11) (j := 2) rfl rfl rfl ?_
  | refine ix_own (k := 12) (j := 0) rfl rfl rfl ?_
  | refine ix_own (k := 12) (j := 1) rfl rfl rfl ?_
  | refine ix_own (k := 12) (j := 2) rfl rfl rfl ?_
  | refine ix_own (k := 13) (j := 0) rfl rfl rfl ?_
  | refine ix_own (k := 13) (j := 1) rfl rfl rfl ?_
  | refine ix_own (k := 13) (j := 2) rfl rfl rfl ?_))
local macro_rules | `(tactic| walk_at "seti") => `(tactic| (first
  | refine ⟨0, 0, _, _, _, rfl, rfl, rfl, rfl, of_decide_eq_true rfl, ?_⟩
  | refine ⟨0, 1, _, _, _, rfl, rfl, rfl, rfl, of_decide_eq_true rfl, ?_⟩
  | refine ⟨0, 2, _, _, _, rfl, rfl, rfl, rfl, of_decide_eq_true rfl, ?_⟩
  | refine ⟨1, 0, _, _, _, rfl, rfl, rfl, rfl, of_decide_eq_true rfl, ?_⟩
  | refine ⟨1, 1, _, _, _, rfl, rfl, rfl, rfl, of_decide_eq_true rfl, ?_⟩
  | refine ⟨1, 2, _, _, _, rfl, rfl, rfl, rfl, of_decide_eq_true rfl, ?_⟩
  | refine ⟨2, 0, _, _, _, rfl, rfl, rfl, rfl, of_decide_eq_true rfl, ?_⟩
  | refine ⟨2, 1, _, _, _, rfl, rfl, rfl, rfl, of_decide_eq_true rfl, ?_⟩
  | refine ⟨2, 2, _, _, _, rfl, rfl, rfl, rfl, of_decide_eq_true rfl, ?_⟩
  | refine ⟨3, 0, _, _, _, rfl, rfl, rfl, rfl, of_decide_eq_true rfl, ?_⟩
  | refine ⟨3, 1, _, _, _, rfl, rfl, rfl, rfl, of_decide_eq_true rfl, ?_⟩
  | refine ⟨3, 2, _, _, _, rfl, rfl, rfl, rfl, of_decide_eq_true rfl, ?_⟩
  | refine ⟨4, 0, _, _, _, rfl, rfl, rfl, rfl, of_decide_eq_true rfl, ?_⟩
  | refine ⟨4, 1, _, _, _, rfl, rfl, rfl, rfl, of_decide_eq_true rfl, ?_⟩
  | refine ⟨4, 2, _, _, _, rfl, rfl, rfl, rfl, of_decide_eq_true rfl, ?_⟩
  | refine ⟨5, 0, _, _, _, rfl, rfl, rfl, rfl, of_decide_eq_true rfl, ?_⟩
  | refine ⟨5, 1, _, _, _, rfl, rfl, rfl, rfl, of_decide_eq_true rfl, ?_⟩
  | refine ⟨5, 2, _, _, _, rfl, rfl, rfl, rfl, of_decide_eq_true rfl, ?_⟩
  | refine ⟨6, 0, _, _, _, rfl, rfl, rfl, rfl, of_decide_eq_true rfl, ?_⟩
  | refine ⟨6, 1, _, _, _, rfl, rfl, rfl, rfl, of_decide_eq_true rfl, ?_⟩
  | refine ⟨6, 2, _, _, _, rfl, rfl, rfl, rfl, of_decide_eq_true rfl, ?_⟩
  | refine ⟨7, 0, _, _, _, rfl, rfl, rfl, rfl, of_decide_eq_true rfl, ?_⟩
  | refine ⟨7, 1, _, _, _, rfl, rfl, rfl, rfl, of_decide_eq_true rfl, ?_⟩
  | refine ⟨7, 2, _, _, _, rfl, rfl, rfl, rfl, of_decide_eq_true rfl, ?_⟩
  | refine ⟨8, 0, _, _, _, rfl, rfl, rfl, rfl, of_decide_eq_true rfl, ?_⟩
  | refine ⟨8, 1, _, _, _, rfl, rfl, rfl, rfl, of_decide_eq_true rfl, ?_⟩
  | refine ⟨8, 2, _, _, _, rfl, rfl, rfl, rfl, of_decide_eq_true rfl, ?_⟩
  | refine ⟨9, 0, _, _, _, rfl, rfl, rfl, rfl, of_decide_eq_true rfl, ?_⟩
  | refine ⟨9, 1, _, _, _, rfl, rfl, rfl, rfl, of_decide_eq_true rfl, ?_⟩
  | refine ⟨9, 2, _, _, _, rfl, rfl, rfl, rfl, of_decide_eq_true rfl, ?_⟩
  | refine ⟨10, 0, _, _, _, rfl, rfl, rfl, rfl, of_decide_eq_true rfl, ?_⟩
  | refine ⟨10, 1, _, _, _, rfl, rfl, rfl, rfl, of_decide_eq_true rfl, ?_⟩
  | refine ⟨10, 2, _, _, _, rfl, rfl, rfl, rfl, of_decide_eq_true rfl, ?_⟩
  | refine ⟨11, 0, _, _, _, rfl, rfl, rfl, rfl, of_decide_eq_true rfl, ?_⟩
  | refine ⟨11, 1, _, _, _, rfl, rfl, rfl, rfl, of_decide_eq_true rfl, ?_⟩
  | refine ⟨11, 2, _, _, _, rfl, rfl, rfl, rfl, of_decide_eq_true rfl, ?_⟩
  | refine ⟨12, 0, _, _, _, rfl, rfl, rfl, rfl, of_decide_eq_true rfl, ?_⟩
  | refine ⟨12, 1, _, _, _, rfl, rfl, rfl, rfl, of_decide_eq_true rfl, ?_⟩
  | refine ⟨12, 2, _, _, _, rfl, rfl, rfl, rfl, of_decide_eq_true rfl, ?_⟩
  | refine ⟨13, 0, _, _, _, rfl, rfl, rfl, rfl, of_decide_eq_true rfl, ?_⟩
  | refine ⟨13, 1, _, _, _, rfl, rfl, rfl, rfl, of_decide_eq_true rfl, ?_⟩
  | refine ⟨13, 2, _, _, _, rfl, rfl, rfl, rfl, of_decide_eq_true rfl, ?_⟩))
local macro_rules | `(tactic| walk_at "lst") => `(tactic| (first
  | refine cd_list (.inr (.inr ⟨0, _, rfl, rfl⟩)) ?_
  | refine cd_list (.inr (.inr ⟨1, _, rfl, rfl⟩)) ?_
  | refine cd_list (.inr (.inr ⟨2, _, rfl, rfl⟩)) ?_
  | refine cd_list (.inr (.inr ⟨3, _, rfl, rfl⟩)) ?_
  | refine cd_list (.inr (.inr ⟨4, _, rfl, rfl⟩)) ?_
  | refine cd_list (.inr (.inr ⟨5, _, rfl, rfl⟩)) ?_
  | refine cd_list (.inr (.inr ⟨6, _, rfl, rfl⟩)) ?_
  | refine cd_list (.inr (.inr ⟨7, _, rfl, rfl⟩)) ?_
  | refine cd_list (.inr (.inr ⟨8, _, rfl, rfl⟩)) ?_
  | refine cd_list (.inr (.inr ⟨9, _, rfl, rfl⟩)) ?_
  | refine cd_list (.inr (.inr ⟨10, _, rfl, rfl⟩)) ?_
  | refine cd_list (.inr (.inr ⟨11, _, rfl, rfl⟩)) ?_
  | refine cd_list (.inr (.inr ⟨12, _, rfl, rfl⟩)) ?_
  | refine cd_list (.inr (.inr ⟨13, _, rfl, rfl⟩)) ?_))
local macro_rules | `(tactic| walk_at "isi") => `(tactic| (first | refine cd_isi (k := true) rfl (by decide +kernel) ?_ | refine cd_isi (k := false) rfl (by decide +kernel) ?_))
local macro_rules | `(tactic| walk_at "size") => `(tactic| (first
  | exact (show 0 ≤ sizeLine by decide) | exact (show 1 ≤ sizeLine by decide) | exact (show 2 ≤ sizeLine by decide) | exact (show 3 ≤ sizeLine by decide) | exact (show 4 ≤ sizeLine by decide) | exact (show 5 ≤ sizeLine by decide) | exact (show 6 ≤ sizeLine by decide) | exact (of_decide_eq_true rfl) | exact (Nat.le_of_ble_eq_true rfl)))
section
variable {P : Program} {w : World} {K : PySem.W.Frag} {mg : Str → Option Value} {base : Heap}
inductive Rw where
  | go (w : Str) (n : Int)
  | stop (z : Str)
  | whi (t : Str) (rs : List Rw)
  | ifr (t : Str) (rs os : List Rw)
  | see (z : Str) (rs os : List Rw)
def blkL (head : Str) (rs os : List Str) (e : Bool) : List Str := head :: (rs ++ ((if e then [] else ("else" : Str) :: os) ++ [("end" : Str)]))
mutual
def Rw.ls : Rw → List Str
  | .go w n => [spJ ["go", w, isS n]]
  | .stop z => [spJ ["stop", z]]
  | .whi t rs => blkL (spJ ["while", t]) (lsR rs) [] true
  | .ifr t rs os => blkL (spJ ["if", t]) (lsR rs) (lsR os) os.isEmpty
  | .see z rs os => blkL (spJ ["see", z]) (lsR rs) (lsR os) os.isEmpty
def lsR : List Rw → List Str
  | [] => []
  | r :: rs => r.ls ++ lsR rs
end
end
end Sl57
set_option Elab.async false
set_option linter.all false
set_option maxRecDepth 100000
set_option maxHeartbeats 4000000
namespace Sl57
open PySem PySem.Spec PyProof.Rows L2 Dt
set_option hygiene false
local macro_rules | `(tactic| walk_at "op") => `(tactic| (first
  | refine od_add ?_ | refine od_sub ?_ | refine od_lt ?_ | refine od_le ?_ | refine od_gt ?_ | refine od_ge ?_ | refine od_eq ?_ | refine od_ne ?_ | refine od_is ?_ | refine od_isn ?_
  | refine od_eqS ?_ | refine od_neS ?_ | refine od_eqB ?_ | refine od_neB ?_))
local macro_rules | `(tactic| walk_at "dead") => `(tactic| (first
  | (cases hb; done)
  | (exact absurd (show false = true from hb) (by decide))
  | (exact absurd (show true = false from hb) (by decide))
  | (exact absurd hb (by decide))
  | (exfalso; simp only [decide_eq_true_eq, decide_eq_false_iff_not, Bool.not_eq_true', Bool.not_eq_false'] at hb; omega)))
local macro_rules | `(tactic| walk_at "tidy") => `(tactic| (try simp only [decide_eq_true_eq, decide_eq_false_iff_not, Bool.not_eq_true', Bool.not_eq_false'] at hb))
local macro_rules | `(tactic| walk_at "truth") => `(tactic| (first | refine tr_bl ?_ | refine tr_lst ?_ | refine tr_tup ?_ | refine tr_non ?_ | refine tr_int ?_))
local macro_rules | `(tactic| walk_at "ix") => `(tactic| (first
  | refine ix_tup (j := 0) rfl rfl ?_ | refine ix_tup (j := 1) rfl rfl ?_ | refine ix_tup (j := 2) rfl rfl ?_
  | refine ix_lst (j := 0) rfl rfl ?_ | refine ix_lst (j := 1) rfl rfl ?_ | refine ix_lst (j := 2) rfl rfl ?_
  | refine ix_own (k := 0) (j := 0) rfl rfl rfl ?_
  | refine ix_own (k := 0) (j := 1) rfl rfl rfl ?_
  | refine ix_own (k := 0) (j := 2) rfl rfl rfl ?_
  | refine ix_own (k := 1) (j := 0) rfl rfl rfl ?_
  | refine ix_own (k := 1) (j := 1) rfl rfl rfl ?_
  | refine ix_own (k := 1) (j := 2) rfl rfl rfl ?_
  | refine ix_own (k := 2) (j := 0) rfl rfl rfl ?_
  | refine ix_own (k := 2) (j := 1) rfl rfl rfl ?_
  | refine ix_own (k := 2) (j := 2) rfl rfl rfl ?_
  | refine ix_own (k := 3) (j := 0) rfl rfl rfl ?_
  | refine ix_own (k := 3) (j := 1) rfl rfl rfl ?_
  | refine ix_own (k := 3) (j := 2) rfl rfl rfl ?_
  | refine ix_own (k := 4) (j := 0) rfl rfl rfl ?_
  | refine ix_own (k := 4) (j := 1) rfl rfl rfl ?_
  | refine ix_own (k := 4) (j := 2) rfl rfl rfl ?_
  | refine ix_own (k := 5) (j := 0) rfl rfl rfl ?_
  | refine ix_own (k := 5) (j := 1) rfl rfl rfl ?_
  | refine ix_own (k := 5) (j := 2) rfl rfl rfl ?_
  | refine ix_own (k := 6) (j := 0) rfl rfl rfl ?_
  | refine ix_own (k := 6) (j := 1) rfl rfl rfl ?_
  | refine ix_own (k := 6) (j := 2) rfl rfl rfl ?_
  | refine ix_own (k := 7) (j := 0) rfl rfl rfl ?_
  | refine ix_own (k := 7) (j := 1) rfl rfl rfl ?_
  | refine ix_own (k := 7) (j := 2) rfl rfl rfl ?_
  | refine ix_own (k := 8) (j := 0) rfl rfl rfl ?_
  | refine ix_own (k := 8) (j := 1) rfl rfl rfl ?_
  | refine ix_own (k := 8) (j := 2) rfl rfl rfl ?_
  | refine ix_own (k := 9) (j := 0) rfl rfl rfl ?_
  | refine ix_own (k := 9) (j := 1) rfl rfl rfl ?_
  | refine ix_own (k := 9) (j := 2) rfl rfl rfl ?_
  | refine ix_own (k := 10) (j := 0) rfl rfl rfl ?_
  | refine ix_own (k := 10) (j := 1) rfl rfl rfl ?_
  | refine ix_own (k := 10) (j := 2) rfl rfl rfl ?_
  | refine ix_own (k := 11) (j := 0) rfl rfl rfl ?_
  | refine ix_own (k := 11) (j := 1) rfl rfl rfl ?_
  | refine ix_own (k := 11) (j := 2) rfl rfl rfl ?_
  | refine ix_own (k := 12) (j := 0) rfl rfl rfl ?_
  | refine ix_own (k := 12) (j := 1) rfl rfl rfl ?_
  | refine ix_own (k := 12) (j := 2) rfl rfl rfl ?_
  | refine ix_own (k := 13) (j := 0) rfl rfl rfl ?_
  | refine ix_own (k := 13) (j := 1) rfl rfl rfl ?_
  | refine ix_own (k := 13) (j := 2) rfl rfl rfl ?_))
local macro_rules | `(tactic| walk_at "seti") => `(tactic| (first
  | refine ⟨0, 0, _, _, _, rfl, rfl, rfl, rfl, of_decide_eq_true rfl, ?_⟩
  | refine ⟨0, 1, _, _, _, rfl, rfl, rfl, rfl, of_decide_eq_true rfl, ?_⟩
  | refine ⟨0, 2, _, _, _, rfl, rfl, rfl, rfl, of_decide_eq_true rfl, ?_⟩
  | refine ⟨1, 0, _, _, _, rfl, rfl, rfl, rfl, of_decide_eq_true rfl, ?_⟩
  | refine ⟨1, 1, _, _, _, rfl, rfl, rfl, rfl, of_decide_eq_true rfl, ?_⟩
  | refine ⟨1, 2, _, _, _, rfl, rfl, rfl, rfl, of_decide_eq_true rfl, ?_⟩
  | refine ⟨2, 0, _, _, _, rfl, rfl, rfl, rfl, of_decide_eq_true rfl, ?_⟩
  | refine ⟨2, 1, _, _, _, rfl, rfl, rfl, rfl, of_decide_eq_true rfl, ?_⟩
  | refine ⟨2, 2, _, _, _, rfl, rfl, rfl, rfl, of_decide_eq_true rfl, ?_⟩
  | refine ⟨3, 0, _, _, _, rfl, rfl, rfl, rfl, of_decide_eq_true rfl, ?_⟩
  | refine ⟨3, 1, _, _, _, rfl, rfl, rfl, rfl, of_decide_eq_true rfl, ?_⟩
  | refine ⟨3, 2, _, _, _, rfl, rfl, rfl, rfl, of_decide_eq_true rfl, ?_⟩
  | refine ⟨4, 0, _, _, _, rfl, rfl, rfl, rfl, of_decide_eq_true rfl, ?_⟩
  | refine ⟨4, 1, _, _, _, rfl, rfl, rfl, rfl, of_decide_eq_true rfl, ?_⟩
  | refine ⟨4, 2, _, _, _, rfl, rfl, rfl, rfl, of_decide_eq_true rfl, ?_⟩
  | refine ⟨5, 0, _, _, _, rfl, rfl, rfl, rfl, of_decide_eq_true rfl, ?_⟩
  | refine ⟨5, 1, _, _, _, rfl, rfl, rfl, rfl, of_decide_eq_true rfl, ?_⟩
  | refine ⟨5, 2, _, _, _, rfl, rfl, rfl, rfl, of_decide_eq_true rfl, ?_⟩
  | refine ⟨6, 0, _, _, _, rfl, rfl, rfl, rfl, of_decide_eq_true rfl, ?_⟩
  | refine ⟨6, 1, _, _, _, rfl, rfl, rfl, rfl, of_decide_eq_true rfl, ?_⟩
  | refine ⟨6, 2, _, _, _, rfl, rfl, rfl, rfl, of_decide_eq_true rfl, ?_⟩
  | refine ⟨7, 0, _, _, _, rfl, rfl, rfl, rfl, of_decide_eq_true rfl, ?_⟩
  | refine ⟨7, 1, _, _, _, rfl, rfl, rfl, rfl, of_decide_eq_true rfl, ?_⟩
  | refine ⟨7, 2, _, _, _, rfl, rfl, rfl, rfl, of_decide_eq_true rfl, ?_⟩
  | refine ⟨8, 0, _, _, _, rfl, rfl, rfl, rfl, of_decide_eq_true rfl, ?_⟩
  | refine ⟨8, 1, _, _, _, rfl, rfl, rfl, rfl, of_decide_eq_true rfl, ?_⟩
  | refine ⟨8, 2, _, _, _, rfl, rfl, rfl, rfl, of_decide_eq_true rfl, ?_⟩
  | refine ⟨9, 0, _, _, _, rfl, rfl, rfl, rfl, of_decide_eq_true rfl, ?_⟩
  | refine ⟨9, 1, _, _, _, rfl, rfl, rfl, rfl, of_decide_eq_true rfl, ?_⟩
  | refine ⟨9, 2, _, _, _, rfl, rfl, rfl, rfl, of_decide_eq_true rfl, ?_⟩
  | refine ⟨10, 0, _, _, _, rfl, rfl, rfl, rfl, of_decide_eq_true rfl, ?_⟩
  | refine ⟨10, 1, _, _, _, rfl, rfl, rfl, rfl, of_decide_eq_true rfl, ?_⟩
  | refine ⟨10, 2, _, _, _, rfl, rfl, rfl, rfl, of_decide_eq_true rfl, ?_⟩
  | refine ⟨11, 0, _, _, _, rfl, rfl, rfl, rfl, of_decide_eq_true rfl, ?_⟩
  | refine ⟨11, 1, _, _, _, rfl, rfl, rfl, rfl, of_decide_eq_true rfl, ?_⟩
  | refine ⟨11, 2, _, _, _, rfl, rfl, rfl, rfl, of_decide_eq_true rfl, ?_⟩
  | refine ⟨12, 0, _, _, _, rfl, rfl, rfl, rfl, of_decide_eq_true rfl, ?_⟩
  | refine ⟨12, 1, _, _, _, rfl, rfl, rfl, rfl, of_decide_eq_true rfl, ?_⟩
  | refine ⟨12, 2, _, _, _, rfl, rfl, rfl, rfl, of_decide_eq_true rfl, ?_⟩
  | refine ⟨13, 0, _, _, _, rfl, rfl, rfl, rfl, of_decide_eq_true rfl, ?_⟩
  | refine ⟨13, 1, _, _, _, rfl, rfl, rfl, rfl, of_decide_eq_true rfl, ?_⟩
  | refine ⟨13, 2, _, _, _, rfl, rfl, rfl, rfl, of_decide_eq_true rfl, ?_⟩))
local macro_rules | `(tactic| walk_at "lst") => `(tactic| (first
  | refine cd_list (.inr (.inr ⟨0, _, rfl, rfl⟩)) ?_
  | refine cd_list (.inr (.inr ⟨1, _, rfl, rfl⟩)) ?_
  | refine cd_list (.inr (.inr ⟨2, _, rfl, rfl⟩)) ?_
  | refine cd_list (.inr (.inr ⟨3, _, rfl, rfl⟩)) ?_
  | refine cd_list (.inr (.inr ⟨4, _, rfl, rfl⟩)) ?_
  | refine cd_list (.inr (.inr ⟨5, _, rfl, rfl⟩)) ?_
  | refine cd_list (.inr (.inr ⟨6, _, rfl, rfl⟩)) ?_
  | refine cd_list (.inr (.inr ⟨7, _, rfl, rfl⟩)) ?_
  | refine cd_list (.inr (.inr ⟨8, _, rfl, rfl⟩)) ?_
  | refine cd_list (.inr (.inr ⟨9, _, rfl, rfl⟩)) ?_
  | refine cd_list (.inr (.inr ⟨10, _, rfl, rfl⟩)) ?_
  | refine cd_list (.inr (.inr ⟨11, _, rfl, rfl⟩)) ?_
  | refine cd_list (.inr (.inr ⟨12, _, rfl, rfl⟩)) ?_
  | refine cd_list (.inr (.inr ⟨13, _, rfl, rfl⟩)) ?_))
local macro_rules | `(tactic| walk_at "isi") => `(tactic| (first | refine cd_isi (k := true) rfl (by decide +kernel) ?_ | refine cd_isi (k := false) rfl (by decide +kernel) ?_))
local macro_rules | `(tactic| walk_at "size") => `(tactic| (first
  | exact (show 0 ≤ sizeLine by decide) | exact (show 1 ≤ sizeLine by decide) | exact (show 2 ≤ sizeLine by decide) | exact (show 3 ≤ sizeLine by decide) | exact (show 4 ≤ sizeLine by decide) | exact (show 5 ≤ sizeLine by decide) | exact (show 6 ≤ sizeLine by decide) | exact (of_decide_eq_true rfl) | exact (Nat.le_of_ble_eq_true rfl)))
section
variable {P : Program} {w : World} {K : PySem.W.Frag} {mg : Str → Option Value} {base : Heap}
def digS : Str := ⟨#[48, 49, 50, 51, 52, 53, 54, 55, 56, 57]⟩
theorem dig_mem {c : Nat} : c ∈ digS.cps.toList ↔ 48 ≤ c ∧ c ≤ 57 := by
  constructor
  · intro h
    have h : c ∈ [48, 49, 50, 51, 52, 53, 54, 55, 56, 57] := h
    simp only [List.mem_cons, List.not_mem_nil, or_false] at h
    omega
  · intro h
    show c ∈ [48, 49, 50, 51, 52, 53, 54, 55, 56, 57]
    simp only [List.mem_cons, List.not_mem_nil, or_false]
    omega
/-- a text of digits -/
structure Dig (y : Str) (a : Nat) : Prop where
  tl : TL.tl y = TL.numL a
theorem Dig.all {y : Str} {a : Nat} (h : Dig y a) : (y.cps.toList.map fun c => decide (c ∈ digS.cps.toList)).all id = true := by
  rw [List.all_map]
  refine List.all_eq_true.mpr fun c hc => decide_eq_true ?_
  have h1 : c ∈ TL.numL a := h.tl ▸ hc
  exact dig_mem.mpr (TL.numL_digits a c h1)
end
end Sl57
set_option Elab.async false
set_option linter.all false
set_option maxRecDepth 100000
set_option maxHeartbeats 4000000
namespace Sl57
open PySem PySem.Spec PyProof.Rows L2 Dt
set_option hygiene false
local macro_rules | `(tactic| walk_at "op") => `(tactic| (first
  | refine od_add ?_ | refine od_sub ?_ | refine od_lt ?_ | refine od_le ?_ | refine od_gt ?_ | refine od_ge ?_ | refine od_eq ?_ | refine od_ne ?_ | refine od_is ?_ | refine od_isn ?_
  | refine od_eqS ?_ | refine od_neS ?_ | refine od_eqB ?_ | refine od_neB ?_))
local macro_rules | `(tactic| walk_at "dead") => `(tactic| (first
  | (cases hb; done)
  | (exact absurd (show false = true from hb) (by decide))
  | (exact absurd (show true = false from hb) (by decide))
  | (exact absurd hb (by decide))
  | (exfalso; simp only [decide_eq_true_eq, decide_eq_false_iff_not, Bool.not_eq_true', Bool.not_eq_false'] at hb; omega)))
local macro_rules | `(tactic| walk_at "tidy") => `(tactic| (try simp only [decide_eq_true_eq, decide_eq_false_iff_not, Bool.not_eq_true', Bool.not_eq_false'] at hb))
local macro_rules | `(tactic| walk_at "truth") => `(tactic| (first | refine tr_bl ?_ | refine tr_lst ?_ | refine tr_tup ?_ | refine tr_non ?_ | refine tr_int ?_))
local macro_rules | `(tactic| walk_at "ix") => `(tactic| (first
  | refine ix_tup (j := 0) rfl rfl ?_ | refine ix_tup (j := 1) rfl rfl ?_ | refine ix_tup (j := 2) rfl rfl ?_
  | refine ix_lst (j := 0) rfl rfl ?_ | refine ix_lst (j := 1) rfl rfl ?_ | refine ix_lst (j := 2) rfl rfl ?_
  | refine ix_own (k := 0) (j := 0) rfl rfl rfl ?_
  | refine ix_own (k := 0) (j := 1) rfl rfl rfl ?_
  | refine ix_own (k := 0) (j := 2) rfl rfl rfl ?_
  | refine ix_own (k := 1) (j := 0) rfl rfl rfl ?_
  | refine ix_own (k := 1) (j := 1) rfl rfl rfl ?_
  | refine ix_own (k := 1) (j := 2) rfl rfl rfl ?_
  | refine ix_own (k := 2) (j := 0) rfl rfl rfl ?_
  | refine ix_own (k := 2) (j := 1) rfl rfl rfl ?_
  | refine ix_own (k := 2) (j := 2) rfl rfl rfl ?_
  | refine ix_own (k := 3) (j := 0) rfl rfl rfl ?_
  | refine ix_own (k := 3) (j := 1) rfl rfl rfl ?_
  | refine ix_own (k := 3) (j := 2) rfl rfl rfl ?_
  | refine ix_own (k := 4) (j := 0) rfl rfl rfl ?_
  | refine ix_own (k := 4) (j := 1) rfl rfl rfl ?_
  | refine ix_own (k := 4) (j := 2) rfl rfl rfl ?_
  | refine ix_own (k := 5) (j := 0) rfl rfl rfl ?_
  | refine ix_own (k := 5) (j := 1) rfl rfl rfl ?_
  | refine ix_own (k := 5) (j := 2) rfl rfl rfl ?_
  | refine ix_own (k := 6) (j := 0) rfl rfl rfl ?_
  | refine ix_own (k := 6) (j := 1) rfl rfl rfl ?_
  | refine ix_own (k := 6) (j := 2) rfl rfl rfl ?_
  | refine ix_own (k := 7) (j := 0) rfl rfl rfl ?_
  | refine ix_own (k := 7) (j := 1) rfl rfl rfl ?_
  | refine ix_own (k := 7) (j := 2) rfl rfl rfl ?_
  | refine ix_own (k := 8) (j := 0) rfl rfl rfl ?_
  | refine ix_own (k := 8) (j := 1) rfl rfl rfl ?_
  | refine ix_own (k := 8) (j := 2) rfl rfl rfl ?_
  | refine ix_own (k := 9) (j := 0) rfl rfl rfl ?_
  | refine ix_own (k := 9) (j := 1) rfl rfl rfl ?_
  | refine ix_own (k := 9) (j := 2) rfl rfl rfl ?_
  | refine ix_own (k := 10) (j := 0) rfl rfl rfl ?_
  | refine ix_own (k := 10) (j := 1) rfl rfl rfl ?_
  | refine ix_own (k := 10) (j := 2) rfl rfl rfl ?_
  | refine ix_own (k := 11) (j := 0) rfl rfl rfl ?_
  | refine ix_own (k := 11) (j := 1) rfl rfl rfl ?_
  | refine ix_own (k := 11) (j := 2) rfl rfl rfl ?_
  | refine ix_own (k := 12) (j := 0) rfl rfl rfl ?_
  | refine ix_own (k := 12) (j := 1) rfl rfl rfl ?_
  | refine ix_own (k := 12) (j := 2) rfl rfl rfl ?_
  | refine ix_own (k := 13) (j := 0) rfl rfl rfl ?_
  | refine ix_own (k := 13) (j := 1) rfl rfl rfl ?_
  | refine ix_own (k := 13) (j := 2) rfl rfl rfl ?_))
local macro_rules | `(tactic| walk_at "seti") => `(tactic| (first
  | refine ⟨0, 0, _, _, _, rfl, rfl, rfl, rfl, of_decide_eq_true rfl, ?_⟩
  | refine ⟨0, 1, _, _, _, rfl, rfl, rfl, rfl, of_decide_eq_true rfl, ?_⟩
  | refine ⟨0, 2, _, _, _, rfl, rfl, rfl, rfl, of_decide_eq_true rfl, ?_⟩
  | refine ⟨1, 0, _, _, _, rfl, rfl, rfl, rfl, of_decide_eq_true rfl, ?_⟩
  | refine ⟨1, 1, _, _, _, rfl, rfl, rfl, rfl, of_decide_eq_true rfl, ?_⟩
  | refine ⟨1, 2, _, _, _, rfl, rfl, rfl, rfl, of_decide_eq_true rfl, ?_⟩
  | refine ⟨2, 0, _, _, _, rfl, rfl, rfl, rfl, of_decide_eq_true rfl, ?_⟩
  | refine ⟨2, 1, _, _, _, rfl, rfl, rfl, rfl, of_decide_eq_true rfl, ?_⟩
  | refine ⟨2, 2, _, _, _, rfl, rfl, rfl, rfl, of_decide_eq_true rfl, ?_⟩
  | refine ⟨3, 0, _, _, _, rfl, rfl, rfl, rfl, of_decide_eq_true rfl, ?_⟩
  | refine ⟨3, 1, _, _, _, rfl, rfl, rfl, rfl, of_decide_eq_true rfl, ?_⟩
  | refine ⟨3, 2, _, _, _, rfl, rfl, rfl, rfl, of_decide_eq_true rfl, ?_⟩
  | refine ⟨4, 0, _, _, _, rfl, rfl, rfl, rfl, of_decide_eq_true rfl, ?_⟩
  | refine ⟨4, 1, _, _, _, rfl, rfl, rfl, rfl, of_decide_eq_true rfl, ?_⟩
  | refine ⟨4, 2, _, _, _, rfl, rfl, rfl, rfl, of_decide_eq_true rfl, ?_⟩
  | refine ⟨5, 0, _, _, _, rfl, rfl, rfl, rfl, of_decide_eq_true rfl, ?_⟩
  | refine ⟨5, 1, _, _, _, rfl, rfl, rfl, rfl, of_decide_eq_true rfl, ?_⟩
  | refine ⟨5, 2, _, _, _, rfl, rfl, rfl, rfl, of_decide_eq_true rfl, ?_⟩
  | refine ⟨6, 0, _, _, _, rfl, rfl, rfl, rfl, of_decide_eq_true rfl, ?_⟩
  | refine ⟨6, 1, _, _, _, rfl, rfl, rfl, rfl, of_decide_eq_true rfl, ?_⟩
  | refine ⟨6, 2, _, _, _, rfl, rfl, rfl, rfl, of_decide_eq_true rfl, ?_⟩
  | refine ⟨7, 0, _, _, _, rfl, rfl, rfl, rfl, of_decide_eq_true rfl, ?_⟩
  | refine ⟨7, 1, _, _, _, rfl, rfl, rfl, rfl, of_decide_eq_true rfl, ?_⟩
  | refine ⟨7, 2, _, _, _, rfl, rfl, rfl, rfl, of_decide_eq_true rfl, ?_⟩
  | refine ⟨8, 0, _, _, _, rfl, rfl, rfl, rfl, of_decide_eq_true rfl, ?_⟩
  | refine ⟨8, 1, _, _, _, rfl, rfl, rfl, rfl, of_decide_eq_true rfl, ?_⟩
  | refine ⟨8, 2, _, _, _, rfl, rfl, rfl, rfl, of_decide_eq_true rfl, ?_⟩
  | refine ⟨9, 0, _, _, _, rfl, rfl, rfl, rfl, of_decide_eq_true rfl, ?_⟩
  | refine ⟨9, 1, _, _, _, rfl, rfl, rfl, rfl, of_decide_eq_true rfl, ?_⟩
  | refine ⟨9, 2, _, _, _, rfl, rfl, rfl, rfl, of_decide_eq_true rfl, ?_⟩
  | refine ⟨10, 0, _, _, _, rfl, rfl, rfl, rfl, of_decide_eq_true rfl, ?_⟩
  | refine ⟨10, 1, _, _, _, rfl, rfl, rfl, rfl, of_decide_eq_true rfl, ?_⟩
  | refine ⟨10, 2, _, _, _, rfl, rfl, rfl, rfl, of_decide_eq_true rfl, ?_⟩
  | refine ⟨11, 0, _, _, _, rfl, rfl, rfl, rfl, of_decide_eq_true rfl, ?_⟩
  | refine ⟨11, 1, _, _, _, rfl, rfl, rfl, rfl, of_decide_eq_true rfl, ?_⟩
  | refine ⟨11, 2, _, _, _, rfl, rfl, rfl, rfl, of_decide_eq_true rfl, ?_⟩
  | refine ⟨12, 0, _, _, _, rfl, rfl, rfl, rfl, of_decide_eq_true rfl, ?_⟩
  | refine ⟨12, 1, _, _, _, rfl, rfl, rfl, rfl, of_decide_eq_true rfl, ?_⟩
  | refine ⟨12, 2, _, _, _, rfl, rfl, rfl, rfl, of_decide_eq_true rfl, ?_⟩
  | refine ⟨13, 0, _, _, _, rfl, rfl, rfl, rfl, of_decide_eq_true rfl, ?_⟩
  | refine ⟨13, 1, _, _, _, rfl, rfl, rfl, rfl, of_decide_eq_true rfl, ?_⟩
  | refine ⟨13, 2, _, _, _, rfl, rfl, rfl, rfl, of_decide_eq_true rfl, ?_⟩))
local macro_rules | `(tactic| walk_at "lst") => `(tactic| (first
  | refine cd_list (.inr (.inr ⟨0, _, rfl, rfl⟩)) ?_
  | refine cd_list (.inr (.inr ⟨1, _, rfl, rfl⟩)) ?_
  | refine cd_list (.inr (.inr ⟨2, _, rfl, rfl⟩)) ?_
  | refine cd_list (.inr (.inr ⟨3, _, rfl, rfl⟩)) ?_
  | refine cd_list (.inr (.inr ⟨4, _, rfl, rfl⟩)) ?_
  | refine cd_list (.inr (.inr ⟨5, _, rfl, rfl⟩)) ?_
  | refine cd_list (.inr (.inr ⟨6, _, rfl, rfl⟩)) ?_
  | refine cd_list (.inr (.inr ⟨7, _, rfl, rfl⟩)) ?_
  | refine cd_list (.inr (.inr ⟨8, _, rfl, rfl⟩)) ?_
  | refine cd_list (.inr (.inr ⟨9, _, rfl, rfl⟩)) ?_
  | refine cd_list (.inr (.inr ⟨10, _, rfl, rfl⟩)) ?_
  | refine cd_list (.inr (.inr ⟨11, _, rfl, rfl⟩)) ?_
  | refine cd_list (.inr (.inr ⟨12, _, rfl, rfl⟩)) ?_
  | refine cd_list (.inr (.inr ⟨13, _, rfl, rfl⟩)) ?_))
local macro_rules | `(tactic| walk_at "isi") => `(tactic| (first | refine cd_isi (k := true) rfl (by decide +kernel) ?_ | refine cd_isi (k := false) rfl (by decide +kernel) ?_))
local macro_rules | `(tactic| walk_at "size") => `(tactic| (first
  | exact (show 0 ≤ sizeLine by decide) | exact (show 1 ≤ sizeLine by decide) | exact (show 2 ≤ sizeLine by decide) | exact (show 3 ≤ sizeLine by decide) | exact (show 4 ≤ sizeLine by decide) | exact (show 5 ≤ sizeLine by decide) | exact (show 6 ≤ sizeLine by decide) | exact (of_decide_eq_true rfl) | exact (Nat.le_of_ble_eq_true rfl)))
end Sl57
set_option Elab.async false
set_option linter.all false
set_option maxRecDepth 100000
set_option maxHeartbeats 4000000
namespace Sl57
open PySem PySem.Spec PyProof.Rows L2 Dt
set_option hygiene false
local macro_rules | `(tactic| walk_at "op") => `(tactic| (first
  | refine od_add ?_ | refine od_sub ?_ | refine od_lt ?_ | refine od_le ?_ | refine od_gt ?_ | refine od_ge ?_ | refine od_eq ?_ | refine od_ne ?_ | refine od_is ?_ | refine od_isn ?_
  | refine od_eqS ?_ | refine od_neS ?_ | refine od_eqB ?_ | refine od_neB ?_))
local macro_rules | `(tactic| walk_at "dead") => `(tactic| (first
  | (cases hb; done)
  | (exact absurd (show false = true from hb) (by decide))
  | (exact absurd (show true = false from hb) (by decide))
  | (exact absurd hb (by decide))
  | (exfalso; simp only [decide_eq_true_eq, decide_eq_false_iff_not, Bool.not_eq_true', Bool.not_eq_false'] at hb; omega)))
local macro_rules | `(tactic| walk_at "tidy") => `(tactic| (try simp only [decide_eq_true_eq, decide_eq_false_iff_not, Bool.not_eq_true', Bool.not_eq_false'] at hb))
local macro_rules | `(tactic| walk_at "truth") => `(tactic| (first | refine tr_bl ?_ | refine tr_lst ?_ | refine tr_tup ?_ | refine tr_non ?_ | refine tr_int ?_))
local macro_rules | `(tactic| walk_at "ix") => `(tactic| (first
  | refine ix_tup (j := 0) rfl rfl ?_ | refine ix_tup (j := 1) rfl rfl ?_ | refine ix_tup (j := 2) rfl rfl ?_
  | refine ix_lst (j := 0) rfl rfl ?_ | refine ix_lst (j := 1) rfl rfl ?_ | refine ix_lst (j := 2) rfl rfl ?_
  | refine ix_own (k := 0) (j := 0) rfl rfl rfl ?_
  | refine ix_own (k := 0) (j := 1) rfl rfl rfl ?_
  | refine ix_own (k := 0) (j := 2) rfl rfl rfl ?_
  | refine ix_own (k := 1) (j := 0) rfl rfl rfl ?_
  | refine ix_own (k := 1) (j := 1) rfl rfl rfl ?_
  | refine ix_own (k := 1) (j := 2) rfl rfl rfl ?_
  | refine ix_own (k := 2) (j := 0) rfl rfl rfl ?_
  | refine ix_own (k := 2) (j := 1) rfl rfl rfl ?_
  | refine ix_own (k := 2) (j := 2) rfl rfl rfl ?_
  | refine ix_own (k := 3) (j := 0) rfl rfl rfl ?_
  | refine ix_own (k := 3) (j := 1) rfl rfl rfl ?_
  | refine ix_own (k := 3) (j := 2) rfl rfl rfl ?_
  | refine ix_own (k := 4) (j := 0) rfl rfl rfl ?_
  | refine ix_own (k := 4) (j := 1) rfl rfl rfl ?_
  | refine ix_own (k := 4) (j := 2) rfl rfl rfl ?_
  | refine ix_own (k := 5) (j := 0) rfl rfl rfl ?_
  | refine ix_own (k := 5) (j := 1) rfl rfl rfl ?_
  | refine ix_own (k := 5) (j := 2) rfl rfl rfl ?_
  | refine ix_own (k := 6) (j := 0) rfl rfl rfl ?_
  | refine ix_own (k := 6) (j := 1) rfl rfl rfl ?_
  | refine ix_own (k := 6) (j := 2) rfl rfl rfl ?_
  | refine ix_own (k := 7) (j := 0) rfl rfl rfl ?_
  | refine ix_own (k := 7) (j := 1) rfl rfl rfl ?_
  | refine ix_own (k := 7) (j := 2) rfl rfl rfl ?_
  | refine ix_own (k := 8) (j := 0) rfl rfl rfl ?_
  | refine ix_own (k := 8) (j := 1) rfl rfl rfl ?_
  | refine ix_own (k := 8) (j := 2) rfl rfl rfl ?_
  | refine ix_own (k := 9) (j := 0) rfl rfl rfl ?_
  | refine ix_own (k := 9) (j := 1) rfl rfl rfl ?_
  | refine ix_own (k := 9) (j := 2) rfl rfl rfl ?_
  | refine ix_own (k := 10) (j := 0) rfl rfl rfl ?_
  | refine ix_own (k := 10) (j := 1) rfl rfl rfl ?_
  | refine ix_own (k := 10) (j := 2) rfl rfl rfl ?_
  | refine ix_own (k := 11) (j := 0) rfl rfl rfl ?_
  | refine ix_own (k := 11) (j := 1) rfl rfl rfl ?_
  | refine ix_own (k := 11) (j := 2) rfl rfl rfl ?_
  | refine ix_own (k := 12) (j := 0) rfl rfl rfl ?_
  | refine ix_own (k := 12) (j := 1) rfl rfl rfl ?_
  | refine ix_own (k := 12) (j := 2) rfl rfl rfl ?_
  | refine ix_own (k := 13) (j := 0) rfl rfl rfl ?_
  | refine ix_own (k := 13) (j := 1) rfl rfl rfl ?_
  | refine ix_own (k := 13) (j := 2) rfl rfl rfl ?_))
local macro_rules | `(tactic| walk_at "seti") => `(tactic| (first
  | refine ⟨0, 0, _, _, _, rfl, rfl, rfl, rfl, of_decide_eq_true rfl, ?_⟩
  | refine ⟨0, 1, _, _, _, rfl, rfl, rfl, rfl, of_decide_eq_true rfl, ?_⟩
  | refine ⟨0, 2, _, _, _, rfl, rfl, rfl, rfl, of_decide_eq_true rfl, ?_⟩
  | refine ⟨1, 0, _, _, _, rfl, rfl, rfl, rfl, of_decide_eq_true rfl, ?_⟩
  | refine ⟨1, 1, _, _, _, rfl, rfl, rfl, rfl, of_decide_eq_true rfl, ?_⟩
  | refine ⟨1, 2, _, _, _, rfl, rfl, rfl, rfl, of_decide_eq_true rfl, ?_⟩
  | refine ⟨2, 0, _, _, _, rfl, rfl, rfl, rfl, of_decide_eq_true rfl, ?_⟩
  | refine ⟨2, 1, _, _, _, rfl, rfl, rfl, rfl, of_decide_eq_true rfl, ?_⟩
  | refine ⟨2, 2, _, _, _, rfl, rfl, rfl, rfl, of_decide_eq_true rfl, ?_⟩
  | refine ⟨3, 0, _, _, _, rfl, rfl, rfl, rfl, of_decide_eq_true rfl, ?_⟩
  | refine ⟨3, 1, _, _, _, rfl, rfl, rfl, rfl, of_decide_eq_true rfl, ?_⟩
  | refine ⟨3, 2, _, _, _, rfl, rfl, rfl, rfl, of_decide_eq_true rfl, ?_⟩
  | refine ⟨4, 0, _, _, _, rfl, rfl, rfl, rfl, of_decide_eq_true rfl, ?_⟩
  | refine ⟨4, 1, _, _, _, rfl, rfl, rfl, rfl, of_decide_eq_true rfl, ?_⟩
  | refine ⟨4, 2, _, _, _, rfl, rfl, rfl, rfl, of_decide_eq_true rfl, ?_⟩
  | refine ⟨5, 0, _, _, _, rfl, rfl, rfl, rfl, of_decide_eq_true rfl, ?_⟩
  | refine ⟨5, 1, _, _, _, rfl, rfl, rfl, rfl, of_decide_eq_true rfl, ?_⟩
  | refine ⟨5, 2, _, _, _, rfl, rfl, rfl, rfl, of_decide_eq_true rfl, ?_⟩
  | refine ⟨6, 0, _, _, _, rfl, rfl, rfl, rfl, of_decide_eq_true rfl, ?_⟩
  | refine ⟨6, 1, _, _, _, rfl, rfl, rfl, rfl, of_decide_eq_true rfl, ?_⟩
  | refine ⟨6, 2, _, _, _, rfl, rfl, rfl, rfl, of_decide_eq_true rfl, ?_⟩
  | refine ⟨7, 0, _, _, _, rfl, rfl, rfl, rfl, of_decide_eq_true rfl, ?_⟩
  | refine ⟨7, 1, _, _, _, rfl, rfl, rfl, rfl, of_decide_eq_true rfl, ?_⟩
  | refine ⟨7, 2, _, _, _, rfl, rfl, rfl, rfl, of_decide_eq_true rfl, ?_⟩
  | refine ⟨8, 0, _, _, _, rfl, rfl, rfl, rfl, of_decide_eq_true rfl, ?_⟩
  | refine ⟨8, 1, _, _, _, rfl, rfl, rfl, rfl, of_decide_eq_true rfl, ?_⟩
  | refine ⟨8, 2, _, _, _, rfl, rfl, rfl, rfl, of_decide_eq_true rfl, ?_⟩
  | refine ⟨9, 0, _, _, _, rfl, rfl, rfl, rfl, of_decide_eq_true rfl, ?_⟩
  | refine ⟨9, 1, _, _, _, rfl, rfl, rfl, rfl, of_decide_eq_true rfl, ?_⟩
  | refine ⟨9, 2, _, _, _, rfl, rfl, rfl, rfl, of_decide_eq_true rfl, ?_⟩
  | refine ⟨10, 0, _, _, _, rfl, rfl, rfl, rfl, of_decide_eq_true rfl, ?_⟩
  | refine ⟨10, 1, _, _, _, rfl, rfl, rfl, rfl, of_decide_eq_true rfl, ?_⟩
  | refine ⟨10, 2, _, _, _, rfl, rfl, rfl, rfl, of_decide_eq_true rfl, ?_⟩
  | refine ⟨11, 0, _, _, _, rfl, rfl, rfl, rfl, of_decide_eq_true rfl, ?_⟩
  | refine ⟨11, 1, _, _, _, rfl, rfl, rfl, rfl, of_decide_eq_true rfl, ?_⟩
  | refine ⟨11, 2, _, _, _, rfl, rfl, rfl, rfl, of_decide_eq_true rfl, ?_⟩
  | refine ⟨12, 0, _, _, _, rfl, rfl, rfl, rfl, of_decide_eq_true rfl, ?_⟩
  | refine ⟨12, 1, _, _, _, rfl, rfl, rfl, rfl, of_decide_eq_true rfl, ?_⟩
  | refine ⟨12, 2, _, _, _, rfl, rfl, rfl, rfl, of_decide_eq_true rfl, ?_⟩
  | refine ⟨13, 0, _, _, _, rfl, rfl, rfl, rfl, of_decide_eq_true rfl, ?_⟩
  | refine ⟨13, 1, _, _, _, rfl, rfl, rfl, rfl, of_decide_eq_true rfl, ?_⟩
  | refine ⟨13, 2, _, _, _, rfl, rfl, rfl, rfl, of_decide_eq_true rfl, ?_⟩))
local macro_rules | `(tactic| walk_at "lst") => `(tactic| (first
  | refine cd_list (.inr (.inr ⟨0, _, rfl, rfl⟩)) ?_
  | refine cd_list (.inr (.inr ⟨1, _, rfl, rfl⟩)) ?_
  | refine cd_list (.inr (.inr ⟨2, _, rfl, rfl⟩)) ?_
  | refine cd_list (.inr (.inr ⟨3, _, rfl, rfl⟩)) ?_
  | refine cd_list (.inr (.inr ⟨4, _, rfl, rfl⟩)) ?_
  | refine cd_list (.inr (.inr ⟨5, _, rfl, rfl⟩)) ?_
  | refine cd_list (.inr (.inr ⟨6, _, rfl, rfl⟩)) ?_
  | refine cd_list (.inr (.inr ⟨7, _, rfl, rfl⟩)) ?_
  | refine cd_list (.inr (.inr ⟨8, _, rfl, rfl⟩)) ?_
  | refine cd_list (.inr (.inr ⟨9, _, rfl, rfl⟩)) ?_
  | refine cd_list (.inr (.inr ⟨10, _, rfl, rfl⟩)) ?_
  | refine cd_list (.inr (.inr ⟨11, _, rfl, rfl⟩)) ?_
  | refine cd_list (.inr (.inr ⟨12, _, rfl, rfl⟩)) ?_
  | refine cd_list (.inr (.inr ⟨13, _, rfl, rfl⟩)) ?_))
local macro_rules | `(tactic| walk_at "isi") => `(tactic| (first | refine cd_isi (k := true) rfl (by decide +kernel) ?_ | refine cd_isi (k := false) rfl (by decide +kernel) ?_))
local macro_rules | `(tactic| walk_at "size") => `(tactic| (first
  | exact (show 0 ≤ sizeLine by decide) | exact (show 1 ≤ sizeLine by decide) | exact (show 2 ≤ sizeLine by decide) | exact (show 3 ≤ sizeLine by decide) | exact (show 4 ≤ sizeLine by decide) | exact (show 5 ≤ sizeLine by decide) | exact (show 6 ≤ sizeLine by decide) | exact (of_decide_eq_true rfl) | exact (Nat.le_of_ble_eq_true rfl)))
end Sl57
set_option Elab.async false
set_option linter.all false
set_option maxRecDepth 100000
set_option maxHeartbeats 4000000
namespace Sl57
open PySem PySem.Spec PyProof.Rows L2 Dt
set_option hygiene false
local macro_rules | `(tactic| walk_at "op") => `(tactic| (first
  | refine od_add ?_ | refine od_sub ?_ | refine od_lt ?_ | refine od_le ?_ | refine od_gt ?_ | refine od_ge ?_ | refine od_eq ?_ | refine od_ne ?_ | refine od_is ?_ | refine od_isn ?_
  | refine od_eqS ?_ | refine od_neS ?_ | refine od_eqB ?_ | refine od_neB ?_))
local macro_rules | `(tactic| walk_at "dead") => `(tactic| (first
  | (cases hb; done)
  | (exact absurd (show false = true from hb) (by decide))
  | (exact absurd (show true = false from hb) (by decide))
  | (exact absurd hb (by decide))
  | (exfalso; simp only [decide_eq_true_eq, decide_eq_false_iff_not, Bool.not_eq_true', Bool.not_eq_false'] at hb; omega)))
local macro_rules | `(tactic| walk_at "tidy") => `(tactic| (try simp only [decide_eq_true_eq, decide_eq_false_iff_not, Bool.not_eq_true', Bool.not_eq_false'] at hb))
local macro_rules | `(tactic| walk_at "truth") => `(tactic| (first | refine tr_bl ?_ | refine tr_lst ?_ | refine tr_tup ?_ | refine tr_non ?_ | refine tr_int ?_))
local macro_rules | `(tactic| walk_at "ix") => `(tactic| (first
  | refine ix_tup (j := 0) rfl rfl ?_ | refine ix_tup (j := 1) rfl rfl ?_ | refine ix_tup (j := 2) rfl rfl ?_
  | refine ix_lst (j := 0) rfl rfl ?_ | refine ix_lst (j := 1) rfl rfl ?_ | refine ix_lst (j := 2) rfl rfl ?_
  | refine ix_own (k := 0) (j := 0) rfl rfl rfl ?_
  | refine ix_own (k := 0) (j := 1) rfl rfl rfl ?_
  | refine ix_own (k := 0) (j := 2) rfl rfl rfl ?_
  | refine ix_own (k := 1) (j := 0) rfl rfl rfl ?_
  | refine ix_own (k := 1) (j := 1) rfl rfl rfl ?_
  | refine ix_own (k := 1) (j := 2) rfl rfl rfl ?_
  | refine ix_own (k := 2) (j := 0) rfl rfl rfl ?_
  | refine ix_own (k := 2) (j := 1) rfl rfl rfl ?_
  | refine ix_own (k := 2) (j := 2) rfl rfl rfl ?_
  | refine ix_own (k := 3) (j := 0) rfl rfl rfl ?_
  | refine ix_own (k := 3) (j := 1) rfl rfl rfl ?_
  | refine ix_own (k := 3) (j := 2) rfl rfl rfl ?_
  | refine ix_own (k := 4) (j := 0) rfl rfl rfl ?_
  | refine ix_own (k := 4) (j := 1) rfl rfl rfl ?_
  | refine ix_own (k := 4) (j := 2) rfl rfl rfl ?_
  | refine ix_own (k := 5) (j := 0) rfl rfl rfl ?_
  | refine ix_own (k := 5) (j := 1) rfl rfl rfl ?_
  | refine ix_own (k := 5) (j := 2) rfl rfl rfl ?_
  | refine ix_own (k := 6) (j := 0) rfl rfl rfl ?_
  | refine ix_own (k := 6) (j := 1) rfl rfl rfl ?_
  | refine ix_own (k := 6) (j := 2) rfl rfl rfl ?_
  | refine ix_own (k := 7) (j := 0) rfl rfl rfl ?_
  | refine ix_own (k := 7) (j := 1) rfl rfl rfl ?_
  | refine ix_own (k := 7) (j := 2) rfl rfl rfl ?_
  | refine ix_own (k := 8) (j := 0) rfl rfl rfl ?_
  | refine ix_own (k := 8) (j := 1) rfl rfl rfl ?_
  | refine ix_own (k := 8) (j := 2) rfl rfl rfl ?_
  | refine ix_own (k := 9) (j := 0) rfl rfl rfl ?_
  | refine ix_own (k := 9) (j := 1) rfl rfl rfl ?_
  | refine ix_own (k := 9) (j := 2) rfl rfl rfl ?_
  | refine ix_own (k := 10) (j := 0) rfl rfl rfl ?_
  | refine ix_own (k := 10) (j := 1) rfl rfl rfl ?_
  | refine ix_own (k := 10) (j := 2) rfl rfl rfl ?_
  | refine ix_own (k := 11) (j := 0) rfl rfl rfl ?_
  | refine ix_own (k := 11) (j := 1) rfl rfl rfl ?_
  | refine ix_own (k := 11) (j := 2) rfl rfl rfl ?_
  | refine ix_own (k := 12) (j := 0) rfl rfl rfl ?_
  | refine ix_own (k := 12) (j := 1) rfl rfl rfl ?_
  | refine ix_own (k := 12) (j := 2) rfl rfl rfl ?_
  | refine ix_own (k := 13) (j := 0) rfl rfl rfl ?_
  | refine ix_own (k := 13) (j := 1) rfl rfl rfl ?_
  | refine ix_own (k := 13) (j := 2) rfl rfl rfl ?_))
local macro_rules | `(tactic| walk_at "seti") => `(tactic| (first
  | refine ⟨0, 0, _, _, _, rfl, rfl, rfl, rfl, of_decide_eq_true rfl, ?_⟩
  | refine ⟨0, 1, _, _, _, rfl, rfl, rfl, rfl, of_decide_eq_true rfl, ?_⟩
  | refine ⟨0, 2, _, _, _, rfl, rfl, rfl, rfl, of_decide_eq_true rfl, ?_⟩
  | refine ⟨1, 0, _, _, _, rfl, rfl, rfl, rfl, of_decide_eq_true rfl, ?_⟩
  | refine ⟨1, 1, _, _, _, rfl, rfl, rfl, rfl, of_decide_eq_true rfl, ?_⟩
  | refine ⟨1, 2, _, _, _, rfl, rfl, rfl, rfl, of_decide_eq_true rfl, ?_⟩
  | refine ⟨2, 0, _, _, _, rfl, rfl, rfl, rfl, of_decide_eq_true rfl, ?_⟩
  | refine ⟨2, 1, _, _, _, rfl, rfl, rfl, rfl, of_decide_eq_true rfl, ?_⟩
  | refine ⟨2, 2, _, _, _, rfl, rfl, rfl, rfl, of_decide_eq_true rfl, ?_⟩
  | refine ⟨3, 0, _, _, _, rfl, rfl, rfl, rfl, of_decide_eq_true rfl, ?_⟩
  | refine ⟨3, 1, _, _, _, rfl, rfl, rfl, rfl, of_decide_eq_true rfl, ?_⟩
  | refine ⟨3, 2, _, _, _, rfl, rfl, rfl, rfl, of_decide_eq_true rfl, ?_⟩
  | refine ⟨4, 0, _, _, _, rfl, rfl, rfl, rfl, of_decide_eq_true rfl, ?_⟩
  | refine ⟨4, 1, _, _, _, rfl, rfl, rfl, rfl, of_decide_eq_true rfl, ?_⟩
  | refine ⟨4, 2, _, _, _, rfl, rfl, rfl, rfl, of_decide_eq_true rfl, ?_⟩
  | refine ⟨5, 0, _, _, _, rfl, rfl, rfl, rfl, of_decide_eq_true rfl, ?_⟩
  | refine ⟨5, 1, _, _, _, rfl, rfl, rfl, rfl, of_decide_eq_true rfl, ?_⟩
  | refine ⟨5, 2, _, _, _, rfl, rfl, rfl, rfl, of_decide_eq_true rfl, ?_⟩
  | refine ⟨6, 0, _, _, _, rfl, rfl, rfl, rfl, of_decide_eq_true rfl, ?_⟩
  | refine ⟨6, 1, _, _, _, rfl, rfl, rfl, rfl, of_decide_eq_true rfl, ?_⟩
  | refine ⟨6, 2, _, _, _, rfl, rfl, rfl, rfl, of_decide_eq_true rfl, ?_⟩
  | refine ⟨7, 0, _, _, _, rfl, rfl, rfl, rfl, of_decide_eq_true rfl, ?_⟩
  | refine ⟨7, 1, _, _, _, rfl, rfl, rfl, rfl, of_decide_eq_true rfl, ?_⟩
  | refine ⟨7, 2, _, _, _, rfl, rfl, rfl, rfl, of_decide_eq_true rfl, ?_⟩
  | refine ⟨8, 0, _, _, _, rfl, rfl, rfl, rfl, of_decide_eq_true rfl, ?_⟩
  | refine ⟨8, 1, _, _, _, rfl, rfl, rfl, rfl, of_decide_eq_true rfl, ?_⟩
  | refine ⟨8, 2, _, _, _, rfl, rfl, rfl, rfl, of_decide_eq_true rfl, ?_⟩
  | refine ⟨9, 0, _, _, _, rfl, rfl, rfl, rfl, of_decide_eq_true rfl, ?_⟩
  | refine ⟨9, 1, _, _, _, rfl, rfl, rfl, rfl, of_decide_eq_true rfl, ?_⟩
  | refine ⟨9, 2, _, _, _, rfl, rfl, rfl, rfl, of_decide_eq_true rfl, ?_⟩
  | refine ⟨10, 0, _, _, _, rfl, rfl, rfl, rfl, of_decide_eq_true rfl, ?_⟩
  | refine ⟨10, 1, _, _, _, rfl, rfl, rfl, rfl, of_decide_eq_true rfl, ?_⟩
  | refine ⟨10, 2, _, _, _, rfl, rfl, rfl, rfl, of_decide_eq_true rfl, ?_⟩
  | refine ⟨11, 0, _, _, _, rfl, rfl, rfl, rfl, of_decide_eq_true rfl, ?_⟩
  | refine ⟨11, 1, _, _, _, rfl, rfl, rfl, rfl, of_decide_eq_true rfl, ?_⟩
  | refine ⟨11, 2, _, _, _, rfl, rfl, rfl, rfl, of_decide_eq_true rfl, ?_⟩
  | refine ⟨12, 0, _, _, _, rfl, rfl, rfl, rfl, of_decide_eq_true rfl, ?_⟩
  | refine ⟨12, 1, _, _, _, rfl, rfl, rfl, rfl, of_decide_eq_true rfl, ?_⟩
  | refine ⟨12, 2, _, _, _, rfl, rfl, rfl, rfl, of_decide_eq_true rfl, ?_⟩
  | refine ⟨13, 0, _, _, _, rfl, rfl, rfl, rfl, of_decide_eq_true rfl, ?_⟩
  | refine ⟨13, 1, _, _, _, rfl, rfl, rfl, rfl, of_decide_eq_true rfl, ?_⟩
  | refine ⟨13, 2, _, _, _, rfl, rfl, rfl, rfl, of_decide_eq_true rfl, ?_⟩))
local macro_rules | `(tactic| walk_at "lst") => `(tactic| (first
  | refine cd_list (.inr (.inr ⟨0, _, rfl, rfl⟩)) ?_
  | refine cd_list (.inr (.inr ⟨1, _, rfl, rfl⟩)) ?_
  | refine cd_list (.inr (.inr ⟨2, _, rfl, rfl⟩)) ?_
  | refine cd_list (.inr (.inr ⟨3, _, rfl, rfl⟩)) ?_
  | refine cd_list (.inr (.inr ⟨4, _, rfl, rfl⟩)) ?_
  | refine cd_list (.inr (.inr ⟨5, _, rfl, rfl⟩)) ?_
  | refine cd_list (.inr (.inr ⟨6, _, rfl, rfl⟩)) ?_
  | refine cd_list (.inr (.inr ⟨7, _, rfl, rfl⟩)) ?_
  | refine cd_list (.inr (.inr ⟨8, _, rfl, rfl⟩)) ?_
  | refine cd_list (.inr (.inr ⟨9, _, rfl, rfl⟩)) ?_
  | refine cd_list (.inr (.inr ⟨10, _, rfl, rfl⟩)) ?_
  | refine cd_list (.inr (.inr ⟨11, _, rfl, rfl⟩)) ?_
  | refine cd_list (.inr (.inr ⟨12, _, rfl, rfl⟩)) ?_
  | refine cd_list (.inr (.inr ⟨13, _, rfl, rfl⟩)) ?_))
local macro_rules | `(tactic| walk_at "isi") => `(tactic| (first | refine cd_isi (k := true) rfl (by decide +kernel) ?_ | refine cd_isi (k := false) rfl (by decide +kernel) ?_))
local macro_rules | `(tactic| walk_at "size") => `(tactic| (first
  | exact (show 0 ≤ sizeLine by decide) | exact (show 1 ≤ sizeLine by decide) | exact (show 2 ≤ sizeLine by decide) | exact (show 3 ≤ sizeLine by decide) | exact (show 4 ≤ sizeLine by decide) | exact (show 5 ≤ sizeLine by decide) | exact (show 6 ≤ sizeLine by decide) | exact (of_decide_eq_true rfl) | exact (Nat.le_of_ble_eq_true rfl)))
end Sl57
set_option Elab.async false
set_option linter.all false
set_option maxRecDepth 100000
set_option maxHeartbeats 0
open PySem PySem.W PySem.Calls PyProof.Rows
set_option Elab.async false
set_option linter.all false
set_option maxRecDepth 100000
set_option maxHeartbeats 2000000
namespace Dt
open PySem PySem.Spec PyProof.Rows L2
section
variable {K : PySem.W.Frag} {P P' : Hp}
theorem IsDs.append {xs ys : List V} {ds es : List D} (h : IsDs K P xs ds) (t : IsDs K P ys es) : IsDs K P (xs ++ ys) (ds ++ es) := by
  refine ⟨by rw [List.length_append, List.length_append, h.1, t.1], fun i y e a b => ?_⟩
  have hl := h.1
  by_cases hi : i < xs.length
  · rw [List.getElem?_append_left hi] at a
    rw [List.getElem?_append_left (by omega)] at b
    exact h.2 i y e a b
  · rw [List.getElem?_append_right (by omega)] at a
    rw [List.getElem?_append_right (by omega)] at b
    rw [hl] at a
    exact t.2 _ y e a b
theorem IsDs.getV {xs : List V} {ds : List D} {i : Nat} {x : V} (h : IsDs K P xs ds) (e : xs[i]? = some x) : ∃ d, ds[i]? = some d ∧ IsD K P x d := by
  obtain ⟨hl, hi⟩ := h
  have hb : i < ds.length := by rw [← hl]; exact (List.getElem?_eq_some_iff.mp e).1
  exact ⟨ds[i], List.getElem?_eq_getElem hb, hi i x _ e (List.getElem?_eq_getElem hb)⟩
theorem IsDs.ints (ns : List Int) : IsDs K P (ns.map V.int) (ns.map D.int) := by
  refine ⟨by rw [List.length_map, List.length_map], fun i x d a b => ?_⟩
  rw [List.getElem?_map] at a b
  cases e : ns[i]? with
  | none => rw [e] at a; cases a
  | some n =>
    rw [e] at a b
    cases a
    cases b
    exact .int
/-- an attribute stored, by data -/
def putD (f : Str) (d : D) : List (Str × D) → List (Str × D)
  | [] => [(f, d)]
  | (g, e) :: r => if g = f then (g, d) :: r else (g, e) :: putD f d r
theorem putF_cons (f g : Str) (v x : V) (r : List (Str × V)) : putF f v ((g, x) :: r) = if g = f then (g, v) :: r else (g, x) :: putF f v r := by
  first
    | rfl
    | (unfold putF; split <;> rfl)
    | (by_cases h : g = f
       · subst h; simp [putF]
       · simp [putF, h])
theorem IsFs.put {f : Str} {d : D} {v : V} (hv : IsD K P v d) : ∀ {xs : List (Str × V)} {ds : List (Str × D)}, IsFs K P xs ds → IsFs K P (putF f v xs) (putD f d ds)
  | xs, [], h => by
    rw [h.unnil]
    exact .cons hv .nil
  | xs, (g, d') :: ds, h => by
    obtain ⟨x, r, rfl, hx, hr⟩ := h.uncons
    rw [putF_cons]
    unfold putD
    by_cases hg : g = f
    · rw [if_pos hg, if_pos hg]
      exact .cons hv hr
    · rw [if_neg hg, if_neg hg]
      exact .cons hx (IsFs.put hv hr)
end
section
variable {K : PySem.W.Frag} {M M' : Mem} {P P' H H' : Hp} {Γ : Sl} {σ : L2.St}
theorem SOk.set {i : Nat} {v : V} {d : D} (h : SOk K Γ P σ) (hv : IsD K P v d) : SOk K (Γ.set i (some d)) P (σ.set i (some v)) := by
  refine ⟨by rw [List.length_set, List.length_set]; exact h.len, fun j e q => ?_⟩
  by_cases hj : i = j
  · subst hj
    have hb : i < Γ.length := by
      have := (List.getElem?_eq_some_iff.mp q).1
      rwa [List.length_set] at this
    rw [List.getElem?_set_self hb] at q
    cases q
    exact ⟨v, by rw [List.getElem?_set_self (by rw [← h.len]; exact hb)], hv⟩
  · rw [List.getElem?_set_ne hj] at q
    obtain ⟨w, a, b⟩ := h.at_ j e q
    exact ⟨w, by rw [List.getElem?_set_ne hj]; exact a, b⟩
/-- slots forgotten -/
theorem SOk.weak {Γ' : Sl} (h : SOk K Γ P σ) (hl : Γ'.length = Γ.length) (hi : ∀ (i : Nat) (d : D), Γ'[i]? = some (some d) → Γ[i]? = some (some d)) : SOk K Γ' P σ := ⟨hl.trans h.len, fun i d q => h.at_ i d (hi i d q)⟩
/-- a new object, not of one's own to change -/
theorem MOk.push {a : Addr} {o : HO} (h : MOk K M P H) (ha : H a = none) (hn : ∀ ps, o ≠ .tbl ps := by intro ps z; cases z) : MOk K M (upd P a o) (upd H a o) ∧ Ex P (upd P a o) := by
  have hp : P a = none := h.ex.free ha
  have e1 : Ex P (upd P a o) := fun b u q => by
    rw [upd_ne (ne_of_none q hp)]
    exact q
  refine ⟨⟨fun b u q => ?_, h.nd, fun b u q => ?_, upd_nt h.nt hn⟩, e1⟩
  · by_cases hb : b = a
    · subst hb
      rw [upd_same] at q ⊢
      exact q
    · rw [upd_ne hb] at q ⊢
      exact h.ex _ _ q
  · obtain ⟨h1, h2⟩ := h.at_ b u q
    have hb : b ≠ a := fun z => by
      obtain ⟨w, hw⟩ := h2.some
      rw [z, ha] at hw
      cases hw
    exact ⟨by rw [upd_ne hb]; exact h1, h2.mono e1 (by rw [upd_ne hb])⟩
/-- an object of one's own changes -/
theorem MOk.put {k : Nat} {a : Addr} {m m' : MO} {o : HO} (h : MOk K M P H) (e : M[k]? = some (a, m)) (hm : MHas K P (upd H a o) a m') : MOk K (M.set k (a, m')) P (upd H a o) := by
  obtain ⟨hp, _⟩ := h.get e
  have hk : k < M.length := (List.getElem?_eq_some_iff.mp e).1
  refine ⟨fun b u q => ?_, ?_, fun b u q => ?_, h.nt⟩
  · rw [upd_ne (ne_of_none q hp)]
    exact h.ex _ _ q
  · have e2 : (M.set k (a, m')).map (·.1) = M.map (·.1) := by
      rw [List.map_set]
      refine List.ext_getElem? fun i => ?_
      by_cases hi : k = i
      · subst hi
        rw [List.getElem?_set_self (by rw [List.length_map]; exact hk), List.getElem?_map, e]
        rfl
      · rw [List.getElem?_set_ne hi]
    rw [e2]
    exact h.nd
  · obtain ⟨j, hj⟩ := List.getElem?_of_mem q
    by_cases hi : k = j
    · subst hi
      rw [List.getElem?_set_self hk] at hj
      cases hj
      exact ⟨hp, hm⟩
    · rw [List.getElem?_set_ne hi] at hj
      obtain ⟨h1, h2⟩ := h.get hj
      have hb : b ≠ a := fun z => by
        subst z
        have a1 : (M.map (·.1))[k]? = some b := by rw [List.getElem?_map, e]; rfl
        have a2 : (M.map (·.1))[j]? = some b := by rw [List.getElem?_map, hj]; rfl
        obtain ⟨b1, c1⟩ := List.getElem?_eq_some_iff.mp a1
        obtain ⟨b2, c2⟩ := List.getElem?_eq_some_iff.mp a2
        exact hi ((List.getElem_inj h.nd).mp (c1.trans c2.symm))
      exact ⟨h1, h2.mono (Same.refl P) (by rw [upd_ne hb])⟩
/-- some of one's own objects are given up -/
theorem MOk.sub (h : MOk K M P H) (hs : M'.Sublist M) : MOk K M' P H := ⟨h.ex, h.nd.sublist (hs.map _), fun a o q => h.at_ a o (hs.subset q), h.nt⟩
theorem MOk.tail {x : Addr × MO} (h : MOk K (x :: M) P H) : MOk K M P H := h.sub (List.sublist_cons_self _ _)
/-- an object of one's own changes no more -/
theorem MOk.freeze {a : Addr} {m : MO} {o : HO} (h : MOk K ((a, m) :: M) P H) (ho : H a = some o) (hn : ∀ ps, o ≠ .tbl ps := by intro ps z; cases z) : MOk K M (upd P a o) H ∧ Ex P (upd P a o) := by
  obtain ⟨hp, _⟩ := h.at_ a m List.mem_cons_self
  have e1 : Ex P (upd P a o) := fun b u q => by
    rw [upd_ne (ne_of_none q hp)]
    exact q
  refine ⟨⟨fun b u q => ?_, h.tail.nd, fun b u q => ?_, upd_nt h.nt hn⟩, e1⟩
  · by_cases hb : b = a
    · subst hb
      rw [upd_same] at q
      rw [ho]
      exact q
    · rw [upd_ne hb] at q
      exact h.ex _ _ q
  · obtain ⟨h1, h2⟩ := h.tail.at_ b u q
    have hb : b ≠ a := fun z => by
      subst z
      have hn := h.nd
      rw [List.map_cons, List.nodup_cons] at hn
      exact hn.1 (List.mem_map.mpr ⟨(b, u), q, rfl⟩)
    exact ⟨by rw [upd_ne hb]; exact h1, h2.mono e1 rfl⟩
end
end Dt
set_option Elab.async false
set_option linter.all false
set_option maxRecDepth 100000
set_option maxHeartbeats 2000000
namespace Dt
open PySem PySem.Spec PyProof.Rows L2
section
variable {X : Cx} {e : Expr} {es : List Expr} {st : Stmt} {sts : List Stmt} {σ : L2.St} {H : Hp}
theorem pe_wp : PE X e (wpT X e) := ⟨fun pins s _ _ _ I h => h pins s I⟩
theorem pa_wp : PA X es (wpA X es) := ⟨fun pos pins s _ _ _ I h => h pos pins s I⟩
theorem pt_wp : PT X e (wpB X e) := ⟨fun pins s _ _ _ I h => h pins s I⟩
theorem pw_wp : PW X e (wpW X e) := ⟨fun wh pins s _ _ _ I h => h wh pins s I⟩
theorem ps_wp : PS X st (wpS X st) := ⟨fun pins s _ _ _ I h => h pins s I⟩
theorem pss_wp : PSs X sts (wpSs X sts) := ⟨fun pins s _ _ _ I h => h pins s I⟩
theorem op_wp {f : Value → Value → Sem Value} : OpR X f (opT X f) := fun pins s σ H x y v u Q I rx ry h => h pins σ s v u I rx ry
theorem un_wp {f : Value → Sem Value} : UnR X f (unT X f) := fun pins s σ H x v Q I rx h => h pins σ s v I rx
theorem ca_wp {f : Value} : CallR X f (caT X f) := fun pins s σ H xs us Q I rx h => h pins σ s us I rx
theorem wpT_of {t : TE} (h : PE X e t) {Q : VK} (q : t σ H Q) : wpT X e σ H Q := fun pins s I => h.run pins s σ H Q I q
theorem wpA_of {t : TA} (h : PA X es t) {Q : List V → Hp → Prop} (q : t σ H Q) : wpA X es σ H Q := fun pos pins s I => h.run pos pins s σ H Q I q
theorem wpB_of {t : TT} (h : PT X e t) {Q : Bool → Hp → Prop} (q : t σ H Q) : wpB X e σ H Q := fun pins s I => h.run pins s σ H Q I q
theorem wpW_of {t : TT} (h : PW X e t) {Q : Bool → Hp → Prop} (q : t σ H Q) : wpW X e σ H Q := fun wh pins s I => h.run wh pins s σ H Q I q
theorem wpS_of {t : TS} (h : PS X st t) {D : Ends} (q : t D σ H) : wpS X st D σ H := fun pins s I => h.run pins s σ H D I q
theorem wpSs_of {t : TS} (h : PSs X sts t) {D : Ends} (q : t D σ H) : wpSs X sts D σ H := fun pins s I => h.run pins s σ H D I q
theorem unT_of {f : Value → Sem Value} {r : V → Hp → VK → Prop} (h : UnR X f r) {x : V} {Q : VK} (q : r x H Q) : unT X f x H Q := fun pins σ s v I rx => h pins s σ H x v Q I rx q
end
def FinA (K : PySem.W.Frag) (P : Hp) (Φ : List D → Mem → Prop) : List V → Hp → Prop := fun vs H2 => ∃ ds M' P2, Φ ds M' ∧ Ex P P2 ∧ MOk K M' P2 H2 ∧ IsDs K P2 vs ds
section
variable {K : PySem.W.Frag} {P P' : Hp}
theorem Fin.up {Φ : VP} {v : V} {H : Hp} (e : Ex P P') (h : Fin K P' Φ v H) : Fin K P Φ v H := let ⟨d, M, P2, a, b, c, f⟩ := h; ⟨d, M, P2, a, e.trans b, c, f⟩
theorem FinA.up {Φ : List D → Mem → Prop} {v : List V} {H : Hp} (e : Ex P P') (h : FinA K P' Φ v H) : FinA K P Φ v H := let ⟨d, M, P2, a, b, c, f⟩ := h; ⟨d, M, P2, a, e.trans b, c, f⟩
theorem FinB.up {Φ : Bool → Mem → Prop} {v : Bool} {H : Hp} (e : Ex P P') (h : FinB K P' Φ v H) : FinB K P Φ v H := let ⟨M, P2, a, b, c⟩ := h; ⟨M, P2, a, e.trans b, c⟩
theorem FinS.up {Φ : Sl → Mem → Prop} {σ : L2.St} {H : Hp} (e : Ex P P') (h : FinS K P' Φ σ H) : FinS K P Φ σ H := let ⟨Γ, M, P2, a, b, c, f⟩ := h; ⟨Γ, M, P2, a, e.trans b, c, f⟩
theorem Po.up (Ψ : Po) (e : Ex P P') : EndsLe (Ψ.ends K P') (Ψ.ends K P) := ⟨fun _ _ h => h.up e, fun _ _ h => h.up e, fun _ _ h => h.up e, fun _ _ h => h.up e⟩
end
def WA (X : Cx) (Γ : Sl) (M : Mem) (es : List Expr) (Φ : List D → Mem → Prop) : Prop := ∀ P σ H, SOk X.K Γ P σ → MOk X.K M P H → wpA X es σ H (FinA X.K P Φ)
def WW (X : Cx) (Γ : Sl) (M : Mem) (e : Expr) (Φ : Bool → Mem → Prop) : Prop := ∀ P σ H, SOk X.K Γ P σ → MOk X.K M P H → wpW X e σ H (FinB X.K P Φ)
def UnD (X : Cx) (f : Value → Sem Value) (x : D) (M : Mem) (Φ : VP) : Prop := ∀ P H a, MOk X.K M P H → IsD X.K P a x → unT X f a H (Fin X.K P Φ)
section
variable {X : Cx} {Γ : Sl} {M : Mem} {Φ Φ' : VP} {Ψ : Po} {e a b c o : Expr} {es rest : List Expr} {pos p pos' : Pos} {st : Stmt} {sts : List Stmt} {B B' : Bool → Mem → Prop}
theorem we_var {i : Nat} {x : Str} {d : D} (hN : X.N[i]? = some x) (hv : Vis X.env.scope x) (hd : (x == ("__debug__" : Str)) = false) (hcd : (x == ("__classdict__" : Str)) = false) (hΓ : Γ[i]? = some (some d)) (h : Φ d M) : WE X Γ M (.Name x pos) Φ :=
  fun P σ H s m => by
    obtain ⟨v, h1, h2⟩ := s.at_ i d hΓ
    exact wpT_of (pe_var hN hv hd hcd) ⟨v, h1, .one h m h2⟩
theorem we_int {i j} (h : Φ (.int i) M) : WE X Γ M (.Constant (.int i) j pos) Φ := fun P σ H s m => wpT_of pe_int (.one h m .int)
theorem we_bl {b j} (h : Φ (.bl b) M) : WE X Γ M (.Constant (.bool b) j pos) Φ := fun P σ H s m => wpT_of pe_bl (.one h m .bl)
theorem we_non {j} (h : Φ .non M) : WE X Γ M (.Constant .none j pos) Φ := fun P σ H s m => wpT_of pe_non (.one h m .non)
theorem we_str {x j} (h : Φ (.str x) M) : WE X Γ M (.Constant (.str x) j pos) Φ := fun P σ H s m => wpT_of pe_str (.one h m .str)
theorem we_glob {x : Str} {a : Addr} (hg : Gl X x) (hm : X.mg x = some (.ref a)) (hd : (x == ("__debug__" : Str)) = false) (h : Φ (.adr a) M) : WE X Γ M (.Name x pos) Φ := fun P σ H s m => wpT_of (pe_glob (v := .ref a) hg hm rfl hd) (.one h m .adr)
theorem we_bty {x : Str} {n : String} (hg : Gl X x) (hm : X.mg x = none) (hv : bootBuiltins x = some (.type n)) (hn : x ≠ "__name__") (hd : (x == ("__debug__" : Str)) = false) (h : Φ (.ty n) M) : WE X Γ M (.Name x pos) Φ := fun P σ H s m => wpT_of (pe_bltn (v := .ty n) hg hm hv rfl hn hd) (.one h m .ty)
theorem wa_nil {Φ : List D → Mem → Prop} (h : Φ [] M) : WA X Γ M [] Φ := fun P σ H s m => wpA_of pa_nil ⟨[], M, P, h, Same.refl P, m, .nil⟩
theorem wa_cons {Φ : List D → Mem → Prop} (h : WE X Γ M e fun d M1 => WA X Γ M1 es fun ds M2 => Φ (d :: ds) M2) (hs : starEach (e :: es) X.env = (false, eval e X.env) :: starEach es X.env := by rfl) : WA X Γ M (e :: es) Φ := fun P σ H s m =>
  wpA_of (pa_cons pe_wp pa_wp hs) ((h P σ H s m).mono fun v H1 ⟨d, M1, P1, q, e1, m1, i1⟩ => (q P1 σ H1 (s.mono e1) m1).mono fun vs H2 ⟨ds, M2, P2, q2, e2, m2, i2⟩ => ⟨d :: ds, M2, P2, q2, e1.trans e2, m2, .cons (i1.mono e2) i2⟩)
theorem we_bin {op : Operator} (h : WE X Γ M a fun x M1 => WE X Γ M1 b fun y M2 => OpD X (binaryOp op) x y M2 Φ) : WE X Γ M (.BinOp a op b pos) Φ := fun P σ H s m =>
  wpT_of (pe_op op_wp pe_wp pe_wp) ((h P σ H s m).mono fun v H1 ⟨d, M1, P1, q, e1, m1, i1⟩ => (q P1 σ H1 (s.mono e1) m1).mono fun u H2 ⟨d2, M2, P2, q2, e2, m2, i2⟩ => (q2 P2 H2 v u m2 (i1.mono e2) i2).mono fun _ _ z => z.up (e1.trans e2))
theorem we_cmp {op : CmpOp} (h : WE X Γ M a fun x M1 => WE X Γ M1 b fun y M2 => OpD X (compareOp op) x y M2 Φ) (hm : behindInMarks op b = false) : WE X Γ M (.Compare a [op] [b] pos) Φ := fun P σ H s m =>
  wpT_of (pe_cmpR op_wp pe_wp pe_wp hm) ((h P σ H s m).mono fun v H1 ⟨d, M1, P1, q, e1, m1, i1⟩ => (q P1 σ H1 (s.mono e1) m1).mono fun u H2 ⟨d2, M2, P2, q2, e2, m2, i2⟩ => (q2 P2 H2 v u m2 (i1.mono e2) i2).mono fun _ _ z => z.up (e1.trans e2))
theorem we_un {op : UnaryOp} (h : WE X Γ M a fun x M1 => UnD X (unaryOp op) x M1 Φ) : WE X Γ M (.UnaryOp op a pos) Φ := fun P σ H s m =>
  wpT_of (pe_un un_wp pe_wp) ((h P σ H s m).mono fun v H1 ⟨d, M1, P1, q, e1, m1, i1⟩ => (q P1 H1 v m1 i1).mono fun _ _ z => z.up e1)
theorem wt_val (h : WE X Γ M e fun d M1 => TrD X d M1 B) (he : ∀ whole, isTrue e X.env whole = (do let v ← whole; standAt e.pos; holding [v] (truthy v))) : WT X Γ M e B := fun P σ H s m => fun pins sh I =>
  isTrue_plain (thn (h P σ H s m pins sh I) fun v s1 ⟨x, H1, I1, r1, d, M1, P1, q, e1, m1, i1⟩ => thn (q P1 H1 x m1 i1 pins σ s1 v I1 r1) fun b s2 ⟨H2, I2, z⟩ => ⟨H2, I2, z.up e1⟩) (he _)
theorem wt_cmp {op : CmpOp} (h : WE X Γ M a fun x M1 => WE X Γ M1 b fun y M2 => OpD X (compareOp op) x y M2 fun d M3 => ∃ k, d = .bl k ∧ B k M3) (hm : behindInMarks op b = false) : WT X Γ M (.Compare a [op] [b] pos) B := fun P σ H s m =>
  wpB_of (pt_cmpR op_wp pe_wp pe_wp hm) ((h P σ H s m).mono fun v H1 ⟨d, M1, P1, q, e1, m1, i1⟩ => (q P1 σ H1 (s.mono e1) m1).mono fun u H2 ⟨d2, M2, P2, q2, e2, m2, i2⟩ => (q2 P2 H2 v u m2 (i1.mono e2) i2).mono fun w H3 ⟨d3, M3, P3, ⟨k, ek, q3⟩, e3, m3, i3⟩ => by
    subst ek
    cases i3
    exact ⟨k, rfl, M3, P3, q3, (e1.trans e2).trans e3, m3⟩)
theorem wt_not (h : WT X Γ M a fun k M1 => B (!k) M1) : WT X Γ M (.UnaryOp .Not a pos) B := fun P σ H s m =>
  wpB_of (pt_not pt_wp) ((h P σ H s m).mono fun k H1 z => z)
theorem wt_bool {op} {l : List Expr} (h : WW X Γ M (.BoolOp op l pos) B) : WT X Γ M (.BoolOp op l pos) B := fun P σ H s m => wpB_of pw_wp.pt (h P σ H s m)
theorem ww_and1 (h : WT X Γ M a B) : WW X Γ M (.BoolOp .And [a] pos) B := fun P σ H s m => wpW_of (pw_and1 pt_wp) (h P σ H s m)
theorem ww_or1 (h : WT X Γ M a B) : WW X Γ M (.BoolOp .Or [a] pos) B := fun P σ H s m => wpW_of (pw_or1 pt_wp) (h P σ H s m)
theorem ww_and (h : WT X Γ M a fun k M1 => (k = true → WW X Γ M1 (.BoolOp .And (b :: rest) pos) B) ∧ (k = false → B false M1)) : WW X Γ M (.BoolOp .And (a :: b :: rest) pos) B := fun P σ H s m =>
  wpW_of (pw_and pt_wp pw_wp) ((h P σ H s m).mono fun k H1 ⟨M1, P1, q, e1, m1⟩ => by
    cases k with
    | true => exact iteT ((q.1 rfl P1 σ H1 (s.mono e1) m1).mono fun _ _ z => z.up e1)
    | false => exact iteF ⟨M1, P1, q.2 rfl, e1, m1⟩)
theorem ww_or (h : WT X Γ M a fun k M1 => (k = true → B true M1) ∧ (k = false → WW X Γ M1 (.BoolOp .Or (b :: rest) pos) B)) : WW X Γ M (.BoolOp .Or (a :: b :: rest) pos) B := fun P σ H s m =>
  wpW_of (pw_or pt_wp pw_wp) ((h P σ H s m).mono fun k H1 ⟨M1, P1, q, e1, m1⟩ => by
    cases k with
    | true => exact iteT ⟨M1, P1, q.1 rfl, e1, m1⟩
    | false => exact iteF ((q.2 rfl P1 σ H1 (s.mono e1) m1).mono fun _ _ z => z.up e1))
/-- a if t else b -/
theorem we_if (h : WT X Γ M c fun k M1 => (k = true → WE X Γ M1 a Φ) ∧ (k = false → WE X Γ M1 b Φ)) : WE X Γ M (.IfExp c a b pos) Φ := fun P σ H s m =>
  wpT_of (pe_ifExp pt_wp pe_wp pe_wp) ((h P σ H s m).mono fun k H1 ⟨M1, P1, q, e1, m1⟩ => by
    cases k with
    | true => exact iteT ((q.1 rfl P1 σ H1 (s.mono e1) m1).mono fun _ _ z => z.up e1)
    | false => exact iteF ((q.2 rfl P1 σ H1 (s.mono e1) m1).mono fun _ _ z => z.up e1))
/-- x and y, x or y of truth values -/
theorem we_one {op} (h : WE X Γ M a Φ) : WE X Γ M (.BoolOp op [a] pos) Φ := fun P σ H s m => wpT_of (pe_one pe_wp) (h P σ H s m)
theorem we_and (h : WE X Γ M a fun d M1 => ∃ k, d = .bl k ∧ (k = true → WE X Γ M1 (.BoolOp .And (b :: rest) pos) Φ) ∧ (k = false → Φ (.bl false) M1)) : WE X Γ M (.BoolOp .And (a :: b :: rest) pos) Φ := fun P σ H s m =>
  wpT_of (pe_and pe_wp pe_wp) ((h P σ H s m).mono fun v H1 ⟨d, M1, P1, ⟨k, ek, qt, qf⟩, e1, m1, i1⟩ => by
    subst ek
    cases i1
    refine ⟨k, rfl, ?_⟩
    cases k with
    | true => exact iteT ((qt rfl P1 σ H1 (s.mono e1) m1).mono fun _ _ z => z.up e1)
    | false => exact iteF ⟨_, M1, P1, qf rfl, e1, m1, .bl⟩)
theorem we_tup {x1} (h : WA X Γ M es fun ds M1 => ds.length ≤ sizeLine ∧ Φ (.tup ds) M1) : WE X Γ M (.Tuple es x1 pos) Φ := fun P σ H s m =>
  wpT_of (pe_tup pa_wp) ((h P σ H s m).mono fun vs H1 ⟨ds, M1, P1, ⟨hl, q⟩, e1, m1, i1⟩ => ⟨by rw [i1.1]; exact hl, fun p hp => by
    obtain ⟨m2, e2⟩ := m1.push (o := .tup vs) hp
    exact ⟨_, M1, _, q, e1.trans e2, m2, .tup (SqT.of upd_same) i1.1 fun i x d a b => (i1.2 i x d a b).mono e2⟩⟩)
theorem we_lst (h : WA X Γ M es fun ds M1 => ds.length ≤ sizeLine ∧ Φ (.lst ds) M1) : WE X Γ M (.List es pos) Φ := fun P σ H s m =>
  wpT_of (pe_lst pa_wp) ((h P σ H s m).mono fun vs H1 ⟨ds, M1, P1, ⟨hl, q⟩, e1, m1, i1⟩ => ⟨by rw [i1.1]; exact hl, fun p hp => by
    obtain ⟨m2, e2⟩ := m1.push (o := .lst vs) hp
    exact ⟨_, M1, _, q, e1.trans e2, m2, .lst (SqL.of upd_same) i1.1 fun i x d a b => (i1.2 i x d a b).mono e2⟩⟩)
/-- a list of one's own -/
theorem we_lstO (h : WA X Γ M es fun ds M1 => ds.length ≤ sizeLine ∧ ∀ l, Φ (.adr l) ((l, .lst ds) :: M1)) : WE X Γ M (.List es pos) Φ := fun P σ H s m =>
  wpT_of (pe_lst pa_wp) ((h P σ H s m).mono fun vs H1 ⟨ds, M1, P1, ⟨hl, q⟩, e1, m1, i1⟩ => ⟨by rw [i1.1]; exact hl, fun p hp =>
    ⟨_, _, P1, q p, e1, m1.own hp ⟨vs, upd_same, i1⟩, .adr⟩⟩)
theorem we_callB {x : Str} {id : String} (hg : Gl X x) (hm : X.mg x = none) (hv : bootBuiltins x = some (.builtin id)) (hn : x ≠ "__name__") (hdb : (x == ("__debug__" : Str)) = false) (h : WA X Γ M (e :: es) fun ds M1 => CaD X (.builtin id) ds M1 Φ)
    (hq : PE X (.Call (.Name x p) (e :: es) [] pos) (tCB (caT X (.builtin id)) (wpA X (e :: es))) := by exact pe_callB ca_wp (by rfl) (by assumption) (by assumption) pa_wp) : WE X Γ M (.Call (.Name x p) (e :: es) [] pos) Φ := fun P σ H s m =>
  wpT_of hq ((h P σ H s m).mono fun vs H1 ⟨ds, M1, P1, q, e1, m1, i1⟩ => (q P1 H1 vs m1 i1).mono fun _ _ z => z.up e1)
theorem we_callTy {x : Str} {T : String} (hg : Gl X x) (hm : X.mg x = none) (hv : bootBuiltins x = some (.type T)) (hn : x ≠ "__name__") (hdb : (x == ("__debug__" : Str)) = false) (h : WA X Γ M (e :: es) fun ds M1 => CaD X (.type T) ds M1 Φ)
    (hq : PE X (.Call (.Name x p) (e :: es) [] pos) (tCB (caT X (.type T)) (wpA X (e :: es))) := by exact pe_callTy ca_wp (by rfl) (by assumption) (by assumption) pa_wp) : WE X Γ M (.Call (.Name x p) (e :: es) [] pos) Φ := fun P σ H s m =>
  wpT_of hq ((h P σ H s m).mono fun vs H1 ⟨ds, M1, P1, q, e1, m1, i1⟩ => (q P1 H1 vs m1 i1).mono fun _ _ z => z.up e1)
theorem ws_nil (h : Ψ.nx Γ M) : WS X Γ M [] Ψ := fun P σ H s m => wpSs_of pss_nil ⟨Γ, M, P, h, Same.refl P, s, m⟩
theorem ws_cons (h : W1 X Γ M st { Ψ with nx := fun Γ' M' => WS X Γ' M' sts Ψ }) : WS X Γ M (st :: sts) Ψ := fun P σ H s m =>
  wpSs_of (pss_cons ps_wp pss_wp) ((h P σ H s m).mono ⟨fun σ' H' ⟨Γ', M', P', q, e, s', m'⟩ => (q P' σ' H' s' m').mono (Ψ.up e), fun _ _ z => z, fun _ _ z => z, fun _ _ z => z⟩)
/-- what is shown of the state is weakened ahead of a block -/
theorem ws_weak {Γ' : Sl} {M' : Mem} (h : WS X Γ' M' sts Ψ) (hl : Γ'.length = Γ.length) (hi : ∀ (i : Nat) (d : D), Γ'[i]? = some (some d) → Γ[i]? = some (some d)) (hm : M'.Sublist M) : WS X Γ M sts Ψ := fun P σ H s m => h P σ H (s.weak hl hi) (m.sub hm)
theorem w1_set {i : Nat} {x : Str} (hN : X.N.Nodup) (hi : X.N[i]? = some x) (hx : Loc X.env.scope x) (h : WE X Γ M e fun d M1 => Ψ.nx (Γ.set i (some d)) M1) (hs : swapsWith e (some (.Name x pos')) pos.line X.env = pure false)
    (hf : X.fn x = true ∨ X.env.scope.names.lookup x = some .local) : W1 X Γ M (.Assign [.Name x pos'] e pos) Ψ := fun P σ H s m =>
  wpS_of (ps_set hN hi hx pe_wp hs hf) ((h P σ H s m).mono fun v H1 ⟨d, M1, P1, q, e1, m1, i1⟩ => ⟨_, M1, P1, q, e1, (s.mono e1).set i1, m1⟩)
theorem w1_ret (h : WE X Γ M e Ψ.rt) : W1 X Γ M (.Return (some e) pos) Ψ := fun P σ H s m => wpS_of (ps_ret pe_wp) (h P σ H s m)
theorem w1_expr (h : WE X Γ M e fun _ M1 => Ψ.nx Γ M1) (hs : swapsWith e none pos.line X.env = pure false) : W1 X Γ M (.Expr e pos) Ψ := fun P σ H s m =>
  wpS_of (ps_expr pe_wp hs) ((h P σ H s m).mono fun v H1 ⟨d, M1, P1, q, e1, m1, i1⟩ => ⟨Γ, M1, P1, q, e1, s.mono e1, m1⟩)
theorem w1_if {A E : List Stmt} (h : WT X Γ M c fun k M1 => (k = true → WS X Γ M1 A Ψ) ∧ (k = false → WS X Γ M1 E Ψ)) : W1 X Γ M (.If c A E pos) Ψ := fun P σ H s m =>
  wpS_of (ps_if pt_wp pss_wp pss_wp) ((h P σ H s m).mono fun k H1 ⟨M1, P1, q, e1, m1⟩ => by
    cases k with
    | true => exact iteT ((q.1 rfl P1 σ H1 (s.mono e1) m1).mono (Ψ.up e1))
    | false => exact iteF ((q.2 rfl P1 σ H1 (s.mono e1) m1).mono (Ψ.up e1)))
end
end Dt
set_option Elab.async false
set_option linter.all false
set_option maxRecDepth 100000
set_option maxHeartbeats 2000000
namespace Dt
open PySem PySem.Spec PyProof.Rows L2
def startD (n : Nat) (ds : List D) : Sl := ds.map some ++ List.replicate (n - ds.length) none
theorem sok_start {K : PySem.W.Frag} {P : Hp} {N : List Str} {vs : List V} {ds : List D} (h : IsDs K P vs ds) : SOk K (startD N.length ds) P (L2.start N vs) := by
  have hl := h.1
  refine ⟨by unfold startD L2.start; rw [List.length_append, List.length_append, List.length_map, List.length_map, List.length_replicate, List.length_replicate, hl], fun i d q => ?_⟩
  unfold startD at q
  by_cases hi : i < ds.length
  · rw [List.getElem?_append_left (by rw [List.length_map]; exact hi), List.getElem?_map, List.getElem?_eq_getElem hi] at q
    have e : ds[i] = d := by simpa using q
    obtain ⟨x, hx, ix⟩ := h.get (i := i) (d := d) (by rw [List.getElem?_eq_getElem hi, e])
    refine ⟨x, ?_, ix⟩
    unfold L2.start
    rw [List.getElem?_append_left (by rw [List.length_map, hl]; exact hi), List.getElem?_map, hx]
    rfl
  · rw [List.getElem?_append_right (by rw [List.length_map]; omega)] at q
    have hm := List.mem_of_getElem? q
    have := (List.mem_replicate.mp hm).2
    cases this
section
variable {P : Program} {w : World} {K : PySem.W.Frag} {mg : Str → Option Value} {base : Heap} {x qual : Str} {params : Arguments} {body : List Stmt} {scope : Scope} {dvs : List V} {kws : List (Str × V)} {f : Addr} {fd : FuncData}
/-- THE RULE for a def by data -/
theorem fn_data {N ps : List Str} {k : Nat} {S : DS} (F : FunD K x qual params body scope dvs kws f fd) (Sc : FnScope N ps scope) (len : ∀ ds M Φ, S ds M Φ → ds.length = ps.length)
    (hbody : ∀ (cdv : Value) (A : Around) (outer : List Env) (s : Shared) (H : Hp) (E : XK) (ds : List D) (M : Mem) (Φ : VP), Room k (A.deeper (envOfC qual scope s.heap.objs.size f cdv)) → S ds M Φ →
      WS (cxOf CX0 P w K mg base N qual scope f cdv A outer s H E).nox (startD N.length ds) M body { nx := fun _ M' => Φ .non M', rt := Φ }) : FnOk P w K mg base CX0 (k + 1) f fd ps (spOf K S) := by
  refine F.ok Sc (fun vs H Q E h => ?_) (fun cdv A outer s H vs Q E hr h => ?_)
  · obtain ⟨P1, M, ds, Φ, i, m, hs, _⟩ := h
    rw [i.1]
    exact len _ _ _ hs
  · obtain ⟨P1, M, ds, Φ, i, m, hs, hq⟩ := h
    refine ⟨_, PSs.nox pss_wp, ?_⟩
    refine (hbody cdv A outer s H E ds M Φ hr hs P1 (L2.start N vs) H (sok_start i) m).mono ⟨fun σ' H' ⟨Γ', M', P', q, e, _, m'⟩ => hq _ _ ⟨.non, M', P', q, e, m', .non⟩, fun v H' z => hq v H' z, fun _ _ ⟨_, _, _, z, _⟩ => z.elim, fun _ _ ⟨_, _, _, z, _⟩ => z.elim⟩
end
section
variable {X : Cx} {Γ : Sl} {M : Mem} {Φ : VP} {Ψ : Po} {e a b c o : Expr} {es : List Expr} {pos p pos' apos : Pos} {k : Nat} {x f : Str} {S : DS}
theorem sp_of {P : Hp} {H : Hp} {vs : List V} {ds : List D} {E : XK} {K : PySem.W.Frag} (i : IsDs K P vs ds) (m : MOk K M P H) (s : S ds M Φ) : spOf K S (vs ++ []) H (Fin K P Φ) E := ⟨P, M, ds, Φ, by rw [List.append_nil]; exact i, m, s, fun _ _ z => z⟩
/-- f(e, ..) -/
theorem we_call (F : HasFn X.prog X.w X.K X.mg X.base k x S) (hr : Room k X.A) (hg : Gl X x) (h : WA X Γ M (e :: es) fun ds M1 => S ds M1 Φ) (hdb : (x == ("__debug__" : Str)) = false) (he : starEach (e :: es) X.env = (false, eval e X.env) :: starEach es X.env)
    (hpl : (backTo pos (starEach es X.env)).any (·.1) = false) : WE X Γ M (.Call (.Name x p) (e :: es) [] pos) Φ := fun P σ H s m => by
  obtain ⟨f, fd, ps, F1, hm, hk, hb⟩ := F
  exact wpT_of (pe_call F1 hr hg hm hk hb .nil pass0 pa_wp hdb he hpl) ((h P σ H s m).mono fun vs H1 ⟨ds, M1, P1, q, e1, m1, i1⟩ => by
    obtain ⟨P2, M2, d2, Φ2, a1, a2, a3, a4⟩ := sp_of (E := E0) i1 m1 q
    exact ⟨P2, M2, d2, Φ2, a1, a2, a3, fun v H' z => (a4 v H' z).up e1⟩)
/-- an attribute, by data -/
def AtD (X : Cx) (f : Str) (d : D) (M : Mem) (Φ : VP) : Prop := ∀ P H v, MOk X.K M P H → IsD X.K P v d → ∀ pins σ s u, Inv X pins σ H s → RelV v u → wpAny (model X.prog X.w) X.A (getAttr u f true) (EP X pins σ (Fin X.K P Φ)) X.xe s
theorem we_attr (h : WE X Γ M e fun d M1 => AtD X f d M1 Φ) (hb : attributeBase e f X.env (eval e X.env) = eval e X.env) : WE X Γ M (.Attribute e f pos) Φ := fun P σ H s m pins sh I =>
  attr_of hb (thn (h P σ H s m pins sh I) fun u s1 ⟨v, H1, I1, r1, d, M1, P1, q, e1, m1, i1⟩ => thn (q P1 H1 v m1 i1 pins σ s1 u I1 r1) fun u2 s2 ⟨v2, H2, I2, r2, z⟩ => ⟨v2, H2, I2, r2, z.up e1⟩)
/-- .. and it changes no more -/
theorem frz_ins {K : PySem.W.Frag} {P H : Hp} {l C : Addr} {fs : List (Str × D)} (m : MOk K ((l, .ins C fs) :: M) P H) : ∃ P2, Ex P P2 ∧ MOk K M P2 H ∧ IsD K P2 (.ref l) (.obj C fs) := by
  obtain ⟨_, dx, xs, h1, h2⟩ := m.at_ l _ List.mem_cons_self
  obtain ⟨m2, e2⟩ := m.freeze h1
  exact ⟨_, e2, m2, .obj upd_same h2.1 fun i x d a b => (h2.2 i x d a b).mono e2⟩
theorem frz_lst {K : PySem.W.Frag} {P H : Hp} {l : Addr} {ds : List D} (m : MOk K ((l, .lst ds) :: M) P H) : ∃ P2, Ex P P2 ∧ MOk K M P2 H ∧ IsD K P2 (.ref l) (.lst ds) := by
  obtain ⟨_, xs, h1, h2⟩ := m.at_ l _ List.mem_cons_self
  obtain ⟨m2, e2⟩ := m.freeze h1
  exact ⟨_, e2, m2, .lst (SqL.of upd_same) h2.1 fun i x d a b => (h2.2 i x d a b).mono e2⟩
/-- self.f = e -/
theorem w1_fld (h : WE X Γ M e fun d M1 => WE X Γ M1 o fun d2 M2 => ∃ (j : Nat) (l C : Addr) (fs : List (Str × D)), d2 = .adr l ∧ M2[j]? = some (l, .ins C fs) ∧ Cls X.K C ∧ NoAttr X.K C f ∧ fs.length < 1000 ∧ Ψ.nx Γ (M2.set j (l, .ins C (putD f d fs))))
    (hs : swapsWith e (some (.Attribute o f pos')) pos.line X.env = pure false) : W1 X Γ M (.Assign [.Attribute o f pos'] e pos) Ψ := fun P σ H s m =>
  wpS_of (ps_fld pe_wp pe_wp hs) ((h P σ H s m).mono fun v H1 ⟨d, M1, P1, q, e1, m1, i1⟩ => (q P1 σ H1 (s.mono e1) m1).mono fun u H2 ⟨d2, M2, P2, ⟨j, l, C, fs, ed, hj, c, n, hl, q2⟩, e2, m2, i2⟩ => by
    subst ed
    cases i2
    obtain ⟨_, dx, xs, h1, h2⟩ := m2.get hj
    refine ⟨l, C, dx, xs, rfl, h1, c, n, by rw [h2.length]; exact hl, Γ, _, P2, q2, e1.trans e2, s.mono (e1.trans e2), ?_⟩
    exact m2.put hj ⟨dx, _, upd_same, h2.put (i1.mono e2)⟩)
end
section
variable {X : Cx} {M : Mem} {Φ : VP} {i j : Int}
theorem od_int {f : Value → Value → Sem Value} {C : Int → Int → Prop} {g : Int → Int → V} {d : D} (h : OpR X f (rI C g)) (hc : C i j) (hg : ∀ P, IsD X.K P (g i j) d) (q : Φ d M) : OpD X f (.int i) (.int j) M Φ := fun P H a b m ia ib => by
  cases ia
  cases ib
  exact opT_of h ⟨i, j, rfl, rfl, hc, .one q m (hg P)⟩
theorem od_mulW (hc : CMulW i j) (q : Φ (.int (i * j)) M) : OpD X (binaryOp .Mult) (.int i) (.int j) M Φ := od_int op_mulW hc (fun _ => .int) q
theorem od_fdivW (hc : CDivW i j) (q : Φ (.int (i / j)) M) : OpD X (binaryOp .FloorDiv) (.int i) (.int j) M Φ := od_int op_fdivW hc (fun _ => .int) q
theorem od_fdiv (hc : 0 < j ∧ j < 1073741824) (q : Φ (.int (i / j)) M) : OpD X (binaryOp .FloorDiv) (.int i) (.int j) M Φ := od_int op_fdiv hc (fun _ => .int) q
theorem od_mod (hc : 0 < j) (q : Φ (.int (i % j)) M) : OpD X (binaryOp .Mod) (.int i) (.int j) M Φ := od_int op_mod hc (fun _ => .int) q
theorem od_pow (hc : 0 ≤ j ∧ j ≤ 1000000 ∧ i.natAbs < 2 ^ 64) (q : Φ (.int (i ^ j.toNat)) M) : OpD X (binaryOp .Pow) (.int i) (.int j) M Φ := od_int op_pow hc (fun _ => .int) q
theorem ud_neg (q : Φ (.int (-i)) M) : UnD X (unaryOp .USub) (.int i) M Φ := fun P H a m ia => by
  cases ia
  exact unT_of un_neg ⟨i, rfl, .one q m .int⟩
end
section
variable {X : Cx} {Γ : Sl} {M : Mem} {Φ : VP} {a b : Expr} {pos : Pos}
theorem we_ix (h : WE X Γ M a fun x M1 => WE X Γ M1 b fun y M2 => IxD X x y M2 Φ) (hs : PlainIx b) : WE X Γ M (.Subscript a b pos) Φ := fun P σ H s m =>
  wpT_of (pe_ix ix_seq pe_wp pe_wp hs) ((h P σ H s m).mono fun v H1 ⟨d, M1, P1, q, e1, m1, i1⟩ => (q P1 σ H1 (s.mono e1) m1).mono fun u H2 ⟨d2, M2, P2, q2, e2, m2, i2⟩ => by
    have z := q2 P2 H2 v u m2 (i1.mono e2) i2
    rcases z with ⟨p, xs, i, w, h1, h2, h3, h4, h5⟩ | ⟨p, xs, i, w, h1, h2, h3, h4, h5⟩ | ⟨y, i, c, h1, h2, h3, h4, h5⟩
    · exact .inl ⟨p, xs, i, w, h1, h2, h3, h4, h5.up (e1.trans e2)⟩
    · exact .inr (.inl ⟨p, xs, i, w, h1, h2, h3, h4, h5.up (e1.trans e2)⟩)
    · exact .inr (.inr ⟨y, i, c, h1, h2, h3, h4, h5.up (e1.trans e2)⟩))
/-- l[i] = e -/
theorem w1_setI {o e : Expr} {pos' : Pos} {Ψ : Po} (h : WE X Γ M e fun d M1 => WE X Γ M1 o fun d2 M2 => WE X Γ M2 b fun d3 M3 => ∃ (k j : Nat) (l : Addr) (ds : List D) (i : Int), d2 = .adr l ∧ d3 = .int i ∧ M3[k]? = some (l, .lst ds) ∧ i = (j : Int) ∧ j < ds.length ∧ Ψ.nx Γ (M3.set k (l, .lst (ds.set j d))))
    (hg : PG X (.Subscript o b pos') (gSub (wpT X o) (wpT X b) rSetL) := by exact pg_sub pe_wp pe_wp set_list) (hs : swapsWithSole [.Subscript o b pos'] e pos.line X.env = pure false) (hw : swappedStores [.Subscript o b pos'] e X.env = pure none)
    (h1 : (assignEach [.Subscript o b pos'] X.env).map (·.2) = [assign (.Subscript o b pos') X.env]) : W1 X Γ M (.Assign [.Subscript o b pos'] e pos) Ψ := fun P σ H s m =>
  wpS_of (ps_asg pe_wp hg hs hw h1) ((h P σ H s m).mono fun v H1 ⟨d, M1, P1, q, e1, m1, i1⟩ => (q P1 σ H1 (s.mono e1) m1).mono fun u H2 ⟨d2, M2, P2, q2, e2, m2, i2⟩ => (q2 P2 σ H2 (s.mono (e1.trans e2)) m2).mono fun u3 H3 ⟨d3, M3, P3, ⟨k, j, l, ds, i, ea, eb, hk, hj, hb, q3⟩, e3, m3, i3⟩ => by
    subst ea eb hj
    cases i2
    cases i3
    obtain ⟨_, xs, h1, h2⟩ := m3.get hk
    refine ⟨l, xs, (j : Int), j, rfl, rfl, h1, ?_, Γ, _, P3, q3, (e1.trans e2).trans e3, s.mono ((e1.trans e2).trans e3), m3.put hk ⟨_, upd_same, ?_⟩⟩
    · unfold ixN
      rw [if_pos (by omega), if_pos (by rw [h2.1]; omega)]
      simp
    · refine ⟨by rw [List.length_set, List.length_set]; exact h2.1, fun n x d' a b => ?_⟩
      by_cases hn : j = n
      · subst hn
        rw [List.getElem?_set_self (by rw [h2.1]; exact hb)] at a
        rw [List.getElem?_set_self hb] at b
        cases a
        cases b
        exact (i1.mono e2).mono e3
      · rw [List.getElem?_set_ne hn] at a b
        exact h2.2 n x d' a b)
end
end Dt
set_option Elab.async false
set_option linter.all false
set_option maxRecDepth 100000
set_option maxHeartbeats 2000000
namespace Dt
open PySem PySem.Spec PyProof.Rows L2
section
variable {X : Cx} {Γ : Sl} {M : Mem} {Φ : VP} {Ψ : Po} {e : Expr} {es : List Expr} {pos p pos' : Pos} {B : Bool → Mem → Prop}
theorem wv (i : Nat) {x : Str} {d : D} (hΓ : Γ[i]? = some (some d)) (h : Φ d M) (hN : X.N[i]? = some x := by rfl) (hv : Vis X.env.scope x := by first | exact Or.inl rfl | exact Or.inr (Or.inl rfl) | exact Or.inr (Or.inr rfl))
    (hd : (x == ("__debug__" : Str)) = false := by decide) (hcd : (x == ("__classdict__" : Str)) = false := by decide) : WE X Γ M (.Name x pos) Φ := we_var hN hv hd hcd hΓ h
theorem ws_set (i : Nat) {x : Str} {sts : List Stmt} (hN : X.N.Nodup) (h : WE X Γ M e fun d M1 => WS X (Γ.set i (some d)) M1 sts Ψ) (hi : X.N[i]? = some x := by rfl) (hx : Loc X.env.scope x := by first | exact Or.inl rfl | exact Or.inr rfl) (hs : swapsWith e (some (.Name x pos')) pos.line X.env = pure false := by rfl)
    (hf : X.fn x = true ∨ X.env.scope.names.lookup x = some .local := by first | exact .inl rfl | exact .inr rfl) : WS X Γ M (.Assign [.Name x pos'] e pos :: sts) Ψ := ws_cons (w1_set hN hi hx h hs hf)
theorem ws_ret {sts : List Stmt} (h : WE X Γ M e Ψ.rt) : WS X Γ M (.Return (some e) pos :: sts) Ψ := ws_cons (w1_ret h)
theorem ws_if {c : Expr} {A E sts : List Stmt} (h : WT X Γ M c fun k M1 => (k = true → WS X Γ M1 A { Ψ with nx := fun Γ' M' => WS X Γ' M' sts Ψ }) ∧ (k = false → WS X Γ M1 E { Ψ with nx := fun Γ' M' => WS X Γ' M' sts Ψ })) : WS X Γ M (.If c A E pos :: sts) Ψ := ws_cons (w1_if h)
theorem ws_expr {sts : List Stmt} (h : WE X Γ M e fun _ M1 => WS X Γ M1 sts Ψ) (hs : swapsWith e none pos.line X.env = pure false := by rfl) : WS X Γ M (.Expr e pos :: sts) Ψ := ws_cons (w1_expr h hs)
/-- what is shown once of an expression, a test, a block -/
theorem we_cut {Φ0 : VP} (h : WE X Γ M e Φ0) (q : ∀ d M', Φ0 d M' → Φ d M') : WE X Γ M e Φ := h.mono q
/-- a statement, then the rest, with a word between them -/
theorem ws_mid {st : Stmt} {sts : List Stmt} (Mid : Sl → Mem → Prop) (h : W1 X Γ M st { Ψ with nx := Mid }) (q : ∀ Γ' M', Mid Γ' M' → WS X Γ' M' sts Ψ) : WS X Γ M (st :: sts) Ψ := ws_cons (h.mono q (fun _ _ z => z) (fun _ _ z => z) (fun _ _ z => z))
end
section
variable {X : Cx} {tg : Expr} {ts : List Expr} {σ : L2.St} {H : Hp} {pos : Pos}
theorem pg_wp : PG X tg (wpG X tg) := ⟨fun pins s _ _ v u _ I r h => h pins s u I r⟩
theorem pgs_wp : PGs X ts (wpGs X ts) := ⟨fun pins s _ _ v u _ I r h => h pins s u I r⟩
theorem wpG_of {t : TG} (h : PG X tg t) {v : V} {Q : L2.St → Hp → Prop} (q : t v σ H Q) : wpG X tg v σ H Q := fun pins s u I r => h.run pins s σ H v u Q I r q
theorem wpGs_of {t : TGs} (h : PGs X ts t) {vs : List V} {Q : L2.St → Hp → Prop} (q : t vs σ H Q) : wpGs X ts vs σ H Q := fun pins s u I r => h.run pins s σ H vs u Q I r q
end
def GD (X : Cx) (Γ : Sl) (M : Mem) (tg : Expr) (d : D) (Θ : Sl → Mem → Prop) : Prop := ∀ P σ H v, SOk X.K Γ P σ → MOk X.K M P H → IsD X.K P v d → wpG X tg v σ H (FinS X.K P Θ)
def GDs (X : Cx) (Γ : Sl) (M : Mem) (ts : List Expr) (ds : List D) (Θ : Sl → Mem → Prop) : Prop := ∀ P σ H vs, SOk X.K Γ P σ → MOk X.K M P H → IsDs X.K P vs ds → wpGs X ts vs σ H (FinS X.K P Θ)
section
variable {X : Cx} {Γ : Sl} {M : Mem} {tg e o : Expr} {ts : List Expr} {Θ : Sl → Mem → Prop} {pos pos' : Pos} {Ψ : Po} {d : D} {ds : List D} {f : Str}
theorem gd_name (i : Nat) {x : Str} (hN : X.N.Nodup) (h : Θ (Γ.set i (some d)) M) (hi : X.N[i]? = some x := by rfl) (hx : Loc X.env.scope x := by first | exact Or.inl rfl | exact Or.inr rfl) (hf : X.fn x = true ∨ X.env.scope.names.lookup x = some .local := by first | exact .inl rfl | exact .inr rfl) : GD X Γ M (.Name x pos) d Θ := fun P σ H v s m i1 =>
  wpG_of (pg_name hN hi hx hf) ⟨_, M, P, h, Same.refl P, s.set i1, m⟩
theorem gds_nil (h : Θ Γ M) : GDs X Γ M [] [] Θ := fun P σ H v s m i1 => wpGs_of pgs_nil ⟨i1.unnil, Γ, M, P, h, Same.refl P, s, m⟩
theorem gds_cons (h : GD X Γ M e d fun Γ' M' => GDs X Γ' M' ts ds Θ) (hs : (assignEach (e :: ts) X.env).map (·.2) = assign e X.env :: (assignEach ts X.env).map (·.2) := by rfl) : GDs X Γ M (e :: ts) (d :: ds) Θ := fun P σ H vs s m i1 => by
  obtain ⟨x, r, rfl, hx, hr⟩ := i1.uncons
  exact wpGs_of (pgs_cons pg_wp pgs_wp hs) ⟨x, r, rfl, (h P σ H x s m hx).mono fun σ' H' ⟨Γ', M', P', q, e1, s1, m1⟩ => (q P' σ' H' r s1 m1 (hr.mono e1)).mono fun _ _ z => z.up e1⟩
theorem gd_tup {n : Nat} {k : Nat} (hc : X.calm = true) (h : GDs X Γ M ts ds Θ) (hl : ds.length = n) (hn : (assignEach ts X.env).length = n := by rfl) (hst : (assignEach ts X.env).findIdx? (·.1) = none := by rfl) : GD X Γ M (.Tuple ts k pos) (.tup ds) Θ := fun P σ H v s m i1 => by
  cases i1 with
  | tup hs hl' hi => exact wpG_of (pg_tup hc pgs_wp hn hst) ⟨_, _, rfl, Same.tupS m.ex hs, by rw [hl', hl], h P σ H _ s m ⟨hl', hi⟩⟩
theorem ws_asg {sts : List Stmt} (h : WE X Γ M e fun d M1 => GD X Γ M1 tg d fun Γ' M' => WS X Γ' M' sts Ψ) (hs : swapsWithSole [tg] e pos.line X.env = pure false := by rfl) (hw : swappedStores [tg] e X.env = pure none := by rfl)
    (h1 : (assignEach [tg] X.env).map (·.2) = [assign tg X.env] := by rfl) : WS X Γ M (.Assign [tg] e pos :: sts) Ψ := ws_cons fun P σ H s m =>
  wpS_of (ps_asg pe_wp pg_wp hs hw h1) ((h P σ H s m).mono fun v H1 ⟨d, M1, P1, q, e1, m1, i1⟩ => (q P1 σ H1 v (s.mono e1) m1 i1).mono fun _ _ z => z.up e1)
/-- a, b = x, y with plain local names -/
theorem ws_par (i j : Nat) {x y : Str} {a b : Expr} {sts : List Stmt} {px py pt : Pos} {kt k2 pt2} (hN : X.N.Nodup) (h : WA X Γ M [a, b] fun ds M1 => ∃ d1 d2, ds = [d1, d2] ∧ WS X ((Γ.set i (some d1)).set j (some d2)) M1 sts Ψ)
    (hij : i ≠ j := by decide) (hc : X.calm = true := by rfl) (hi : X.N[i]? = some x := by rfl) (hj : X.N[j]? = some y := by rfl)
    (hx : X.env.scope.names.lookup x = some .local := by rfl) (hy : X.env.scope.names.lookup y = some .local := by rfl)
    (hw : swappedStores [.Tuple [.Name x px, .Name y py] kt pt] (.Tuple [a, b] k2 pt2) X.env = pure (some [x, y]) := by rfl)
    (hs : swapsWithSole [.Tuple [.Name x px, .Name y py] kt pt] (.Tuple [a, b] k2 pt2) pos.line X.env = pure false := by rfl) : WS X Γ M (.Assign [.Tuple [.Name x px, .Name y py] kt pt] (.Tuple [a, b] k2 pt2) pos :: sts) Ψ := ws_cons fun P σ H s m =>
  wpS_of (ps_par hc hN hi hj hij hx hy pa_wp hw hs) ((h P σ H s m).mono fun vs H1 ⟨ds, M1, P1, ⟨d1, d2, ed, q⟩, e1, m1, i1⟩ => by
    subst ed
    obtain ⟨v, r, rfl, hv, hr⟩ := i1.uncons
    obtain ⟨u, r2, rfl, hu, hr2⟩ := hr.uncons
    obtain rfl := hr2.unnil
    exact ⟨v, u, rfl, _, M1, P1, q, e1, ((s.mono e1).set hv).set hu, m1⟩)
end
section
variable {X : Cx} {Γ : Sl} {M : Mem} {tg it a b : Expr} {body sts : List Stmt} {Ψ : Po} {pos p pos2 : Pos}
theorem w1_forR1 (hp : PassesOwn (model X.prog X.w) X.A X.env X.xe) (hc : X.calm = true) (hg : Gl X "range") (hm : X.mg "range" = none)
    (h : WA X Γ M [a] fun ds M1 => ∃ (Iv : Nat → Sl → Mem → Prop) (n : Int), ds = [.int n] ∧ -(2 ^ 62) ≤ n ∧ n < 2 ^ 62 ∧ Iv 0 Γ M1 ∧ (∀ (i : Nat) Γ' M', (i : Int) < n → Iv i Γ' M' → GD X Γ' M' tg (.int (i : Int)) fun Γ2 M2 => WS X Γ2 M2 body { Ψ with nx := Iv (i + 1), ct := Iv (i + 1), bk := Ψ.nx }) ∧ ∀ Γ' M', Iv n.toNat Γ' M' → Ψ.nx Γ' M')
    (hs : starEach [a] X.env = [(false, eval a X.env)] := by rfl) (hf : ∀ x, foldedSetIterable (.Call (.Name "range" p) [a] [] pos2) X.env x = pure x := by intro _; rfl) : W1 X Γ M (.For tg (.Call (.Name "range" p) [a] [] pos2) body [] pos) Ψ := fun P σ H s m =>
  wpS_of (ps_for hp hc (pi_range1 hg hm pa_wp hs) pg_wp pss_wp hf) ((h P σ H s m).mono fun vs H1 ⟨ds, M1, P1, ⟨Iv, n, ed, h1, h2, hI, hstep, hdone⟩, e1, m1, i1⟩ => by
    subst ed
    obtain ⟨v, r, rfl, hv, hr⟩ := i1.uncons
    obtain rfl := hr.unnil
    cases hv
    refine ⟨n, rfl, h1, h2, for_range (lo := 0) (n := n.toNat) (fun i => FinS X.K P (Iv i)) ⟨Γ, M1, P1, hI, e1, s.mono e1, m1⟩ ?_ ?_⟩
    · rintro i σ' H' hi ⟨Γ', M', P', hI', e', s', m'⟩
      refine (hstep i Γ' M' (by omega) hI' P' σ' H' (.int (0 + (i : Int))) s' m' (by rw [Int.zero_add]; exact .int)).mono fun σ2 H2 ⟨Γ2, M2, P2, q, e2, s2, m2⟩ => (q P2 σ2 H2 s2 m2).mono ?_
      exact ⟨fun _ _ z => z.up (e'.trans e2), fun _ _ z => z.up (e'.trans e2), fun _ _ z => z.up (e'.trans e2), fun _ _ z => z.up (e'.trans e2)⟩
    · rintro σ' H' ⟨Γ', M', P', hI', e', s', m'⟩
      exact ⟨Γ', M', P', hdone Γ' M' hI', e', s', m'⟩)
/-- over a list, a tuple -/
theorem w1_forL (hp : PassesOwn (model X.prog X.w) X.A X.env X.xe) (hc : X.calm = true)
    (h : WE X Γ M it fun d M1 => ∃ (Iv : Nat → Sl → Mem → Prop) (xs : List D), d = .lst xs ∧ Iv 0 Γ M1 ∧ (∀ (i : Nat) (y : D) Γ' M', xs[i]? = some y → Iv i Γ' M' → GD X Γ' M' tg y fun Γ2 M2 => WS X Γ2 M2 body { Ψ with nx := Iv (i + 1), ct := Iv (i + 1), bk := Ψ.nx }) ∧ ∀ Γ' M', Iv xs.length Γ' M' → Ψ.nx Γ' M')
    (hf : ∀ x, foldedSetIterable it X.env x = pure x := by intro _; rfl) : W1 X Γ M (.For tg it body [] pos) Ψ := fun P σ H s m =>
  wpS_of (ps_for hp hc (pi_list pe_wp) pg_wp pss_wp hf) ((h P σ H s m).mono fun v H1 ⟨d, M1, P1, ⟨Iv, xs, ed, hI, hstep, hdone⟩, e1, m1, i1⟩ => by
    subst ed
    cases i1 with
    | @lst l vs _ hq hl hi =>
      refine ⟨l, rfl, ⟨vs, m1.ex.seq hq⟩, for_list (K := X.K) (a := l) (xs := vs) (fun i => FinS X.K P1 (Iv i)) ⟨Γ, M1, P1, hI, Same.refl P1, s.mono e1, m1⟩ (fun i σ' H' _ ⟨Γ', M', P', _, e', _, m'⟩ => m'.ex.seq (e'.seq hq)) ?_ ?_⟩
      · rintro i x σ' H' hx ⟨Γ', M', P', hI', e', s', m'⟩
        obtain ⟨y, hy, iy⟩ := IsDs.getV (K := X.K) (P := P1) ⟨hl, hi⟩ hx
        refine (hstep i y Γ' M' hy hI' P' σ' H' x s' m' (iy.mono e')).mono fun σ2 H2 ⟨Γ2, M2, P2, q, e2, s2, m2⟩ => (q P2 σ2 H2 s2 m2).mono ?_
        exact ⟨fun _ _ z => z.up (e'.trans e2), fun _ _ z => z.up (e1.trans (e'.trans e2)), fun _ _ z => z.up (e1.trans (e'.trans e2)), fun _ _ z => z.up (e'.trans e2)⟩
      · rintro σ' H' ⟨Γ', M', P', hI', e', s', m'⟩
        exact ⟨Γ', M', P', hdone Γ' M' (by rw [← hl]; exact hI'), e1.trans e', s', m'⟩)
/-- while, by a word and a measure -/
theorem w1_while {c : Expr} (W : Nat → Sl → Mem → Prop) (hp : PassesOwn (model X.prog X.w) X.A X.env X.xe) (n0 : Nat) (h0 : W n0 Γ M)
    (hs : ∀ n Γ' M', W n Γ' M' → WT X Γ' M' c fun k M1 => (k = true → WS X Γ' M1 body { Ψ with nx := fun Γ2 M2 => ∃ n', n' < n ∧ W n' Γ2 M2, ct := fun Γ2 M2 => ∃ n', n' < n ∧ W n' Γ2 M2, bk := Ψ.nx }) ∧ (k = false → Ψ.nx Γ' M1)) : W1 X Γ M (.While c body [] pos) Ψ := fun P σ H s m =>
  wpS_of (ps_while hp pt_wp pss_wp) (show tWhile (wpB X c) (wpSs X body) (Ψ.ends X.K P) σ H from ⟨fun n => FinS X.K P (W n), ⟨n0, Γ, M, P, h0, Same.refl P, s, m⟩, fun n σ' H' ⟨Γ', M', P', hW, e', s', m'⟩ => (hs n Γ' M' hW P' σ' H' s' m').mono fun k H1 ⟨M1, P1, q, e1, m1⟩ => by
    cases k with
    | true =>
      refine iteT ⟨FinS X.K P fun Γ2 M2 => ∃ n', n' < n ∧ W n' Γ2 M2, fun σ2 H2 ⟨Γ2, M2, P2, ⟨n', hn, w2⟩, e2, s2, m2⟩ => ⟨n', hn, Γ2, M2, P2, w2, e2, s2, m2⟩, ?_⟩
      refine (q.1 rfl P1 σ' H1 (s'.mono e1) m1).mono ?_
      exact ⟨fun _ _ z => z.up (e'.trans e1), fun _ _ z => z.up (e'.trans e1), fun _ _ z => z.up (e'.trans e1), fun _ _ z => z.up (e'.trans e1)⟩
    | false => exact iteF ⟨Γ', M1, P1, q.2 rfl, e'.trans e1, s'.mono e1, m1⟩⟩)
end
end Dt
set_option Elab.async false
set_option linter.all false
set_option maxRecDepth 100000
set_option maxHeartbeats 2000000
namespace Dt
open PySem PySem.Spec PyProof.Rows L2
section
variable {X : Cx} {Γ : Sl} {M : Mem} {Φ : VP} {Ψ : Po} {e o a b : Expr} {es : List Expr} {pos p apos : Pos}
theorem cd_abs {i : Int} (q : Φ (.int (if i < 0 then -i else i)) M) : CaD X (.builtin "abs") [.int i] M Φ := cd_of call_abs fun P H vs m h => by
  obtain ⟨v, rfl, hv⟩ := h.un1
  cases hv
  exact ⟨i, rfl, .one q m .int⟩
theorem cd_int {i : Int} (q : Φ (.int i) M) : CaD X (.type "int") [.int i] M Φ := cd_of call_int1 fun P H vs m h => by
  obtain ⟨v, rfl, hv⟩ := h.un1
  cases hv
  exact .inl ⟨i, rfl, .one q m .int⟩
theorem cd_len_lst {ds : List D} (q : Φ (.int ds.length) M) : CaD X (.builtin "len") [.lst ds] M Φ := cd_of call_len fun P H vs m h => by
  obtain ⟨v, rfl, hv⟩ := h.un1
  cases hv with
  | lst hs hl hi => exact ⟨_, ds.length, rfl, .inl ⟨_, m.ex.seq hs, hl.symm⟩, .one q m .int⟩
theorem cd_len_tup {ds : List D} (q : Φ (.int ds.length) M) : CaD X (.builtin "len") [.tup ds] M Φ := cd_of call_len fun P H vs m h => by
  obtain ⟨v, rfl, hv⟩ := h.un1
  cases hv with
  | tup hs hl hi => exact ⟨_, ds.length, rfl, .inr ⟨_, Same.tupS m.ex hs, hl.symm⟩, .one q m .int⟩
theorem cd_len_str {x : Str} (hl : x.length ≤ sizeLine) (q : Φ (.int x.length) M) : CaD X (.builtin "len") [.str x] M Φ := cd_of call_len_str fun P H vs m h => by
  obtain ⟨v, rfl, hv⟩ := h.un1
  cases hv
  exact ⟨x, rfl, hl, .one q m .int⟩
theorem isDs_bls {K : PySem.W.Frag} {P : Hp} : ∀ {bs : List Bool} {vs : List V}, IsDs K P vs (bs.map D.bl) → vs = bs.map V.bl
  | [], vs, h => h.unnil
  | b :: bs, vs, h => by
    obtain ⟨v, r, rfl, hv, hr⟩ := IsDs.uncons h
    cases hv
    rw [isDs_bls hr]
    rfl
theorem cd_all {bs : List Bool} (hc : X.calm = true) (q : Φ (.bl (bs.all id)) M) : CaD X (.builtin "all") [.lst (bs.map D.bl)] M Φ := cd_of (cr_all hc) fun P H vs m h => by
  obtain ⟨v, rfl, hv⟩ := h.un1
  cases hv with
  | lst hs hl hi =>
    rw [isDs_bls ⟨hl, hi⟩] at hs
    exact ⟨_, bs, rfl, m.ex.seq hs, .one q m .bl⟩
/-- tuple(xs) -/
theorem cd_tuple {ds : List D} {d : D} (hd : d = .lst ds ∨ d = .tup ds ∨ ∃ (k : Nat) (l : Addr), d = .adr l ∧ M[k]? = some (l, .lst ds)) (q : Φ (.tup ds) M) : CaD X (.type "tuple") [d] M Φ := cd_of call_tuple_of fun P H vs m h => by
  obtain ⟨v, rfl, hv⟩ := h.un1
  rcases hd with rfl | rfl | ⟨k, l, rfl, hk⟩
  · cases hv with
    | lst hs hl hi =>
      refine ⟨_, _, rfl, .inl ⟨m.ex.seq hs, fun l hn => ?_⟩⟩
      obtain ⟨m2, e2⟩ := m.push (o := .tup _) hn
      exact ⟨_, M, _, q, e2, m2, .tup (SqT.of upd_same) hl fun i x d a b => (hi i x d a b).mono e2⟩
  · cases hv with
    | tup hs hl hi => exact ⟨_, _, rfl, .inr ⟨Same.tupS m.ex hs, .one q m (.tup hs hl hi)⟩⟩
  · cases hv
    obtain ⟨_, xs, h1, h2⟩ := m.get hk
    refine ⟨_, _, rfl, .inl ⟨SqL.of h1, fun l' hn => ?_⟩⟩
    obtain ⟨m2, e2⟩ := m.push (o := .tup xs) hn
    exact ⟨_, M, _, q, e2, m2, .tup (SqT.of upd_same) h2.1 fun i x d a b => (h2.2 i x d a b).mono e2⟩
theorem we_append (h : WE X Γ M o fun d M1 => ∃ (l : Addr) (k0 : Nat) (ds0 : List D), d = .adr l ∧ M1[k0]? = some (l, .lst ds0) ∧ WE X Γ M1 e fun y M2 => ∃ (k : Nat) (ds : List D), M2[k]? = some (l, .lst ds) ∧ ds.length < sizeLine ∧ Φ .non (M2.set k (l, .lst (ds ++ [y]))))
    (hq : PE X (.Call (.Attribute o "append" apos) [e] [] pos) (tBM X.K "list" rAppend (wpT X o) (wpA X [e])) := by exact pe_bm PySem.F.plainAttrs_list PySem.F.slot_list_append PySem.F.type_list_append mt_append pe_wp pa_wp)
    (hs : starEach [e] X.env = (false, eval e X.env) :: starEach [] X.env := by rfl) : WE X Γ M (.Call (.Attribute o "append" apos) [e] [] pos) Φ := fun P σ H s m =>
  wpT_of hq ((h P σ H s m).mono fun v H1 ⟨d, M1, P1, ⟨l, k0, ds0, ed, hk0, q⟩, e1, m1, i1⟩ => by
    subst ed
    cases i1
    have hA : WA X Γ M1 [e] fun ds' M2 => ∃ y, ds' = [y] ∧ ∃ (k : Nat) (ds : List D), M2[k]? = some (l, .lst ds) ∧ ds.length < sizeLine ∧ Φ .non (M2.set k (l, .lst (ds ++ [y]))) :=
      wa_cons (q.mono fun y M2 z => wa_nil ⟨y, rfl, z⟩) hs
    obtain ⟨_, xs0, h01, h02⟩ := m1.get hk0
    refine ⟨.inl ⟨rfl, xs0, SqL.of h01⟩, (hA P1 σ H1 (s.mono e1) m1).mono fun vs H2 ⟨ds', M2, P2, ⟨y, ey, k, ds, hk, hlen, q2⟩, e2, m2, i2⟩ => ?_⟩
    subst ey
    obtain ⟨u, rfl, hu⟩ := i2.un1
    obtain ⟨_, xs, h1, h2⟩ := m2.get hk
    exact ⟨l, xs, u, rfl, rfl, h1, by rw [h2.1]; exact hlen, .non, _, P2, q2, e1.trans e2, m2.put hk ⟨_, upd_same, h2.append (.cons hu .nil)⟩, .non⟩)
/-- xs.pop() -/
theorem we_pop (h : WE X Γ M o fun d M1 => ∃ (l : Addr) (k : Nat) (ds : List D) (y : D), d = .adr l ∧ M1[k]? = some (l, .lst ds) ∧ ds[ds.length - 1]? = some y ∧ Φ y (M1.set k (l, .lst ds.dropLast)))
    (hq : PE X (.Call (.Attribute o "pop" apos) [] [] pos) (tBM0 X.K "list" rPop (wpT X o)) := by exact pe_bm0 PySem.F.plainAttrs_list PySem.F.slot_list_pop PySem.F.type_list_pop mt_pop pe_wp) : WE X Γ M (.Call (.Attribute o "pop" apos) [] [] pos) Φ := fun P σ H s m =>
  wpT_of hq ((h P σ H s m).mono fun v H1 ⟨d, M1, P1, ⟨l, k, ds, y, ed, hk, hy, q⟩, e1, m1, i1⟩ => by
    subst ed
    cases i1
    obtain ⟨_, xs, h1, h2⟩ := m1.get hk
    have hb : ds.length - 1 < ds.length := (List.getElem?_eq_some_iff.mp hy).1
    obtain ⟨u, hu, iu⟩ := h2.get hy
    refine ⟨.inl ⟨rfl, xs, SqL.of h1⟩, l, xs, u, rfl, rfl, h1, by rw [h2.1]; exact hu, y, _, P1, q, e1, m1.put hk ⟨_, upd_same, ?_⟩, iu⟩
    refine ⟨by rw [List.length_dropLast, List.length_dropLast, h2.1], fun i x d a b => ?_⟩
    rw [List.getElem?_dropLast] at a b
    split at a
    · split at b
      · exact h2.2 i x d a b
      · cases b
    · cases a)
end
theorem wipe_get (σ : L2.St) (i : Nat) : ∀ vs : List Nat, (wipe σ vs)[i]? = if i ∈ vs ∧ i < σ.length then some none else σ[i]?
  | [] => by simp [wipe]
  | v :: vs => by
    have ih := wipe_get σ i vs
    have hl := wipe_length σ vs
    show ((wipe σ vs).set v none)[i]? = _
    by_cases hv : v = i
    · subst hv
      by_cases hb : v < σ.length
      · rw [List.getElem?_set_self (by rw [hl]; exact hb), if_pos ⟨List.mem_cons_self, hb⟩]
      · rw [if_neg (fun z => hb z.2), List.getElem?_eq_none (by rw [List.length_set, hl]; omega), List.getElem?_eq_none (by omega)]
    · rw [List.getElem?_set_ne hv, ih]
      have hm : (i ∈ v :: vs) ↔ i ∈ vs := by
        rw [List.mem_cons]
        exact ⟨fun z => z.elim (fun q => absurd q.symm hv) id, .inr⟩
      simp only [hm]
theorem wipe_set {σ : L2.St} {j : Nat} {x : Option V} {vs : List Nat} (h : j ∈ vs) : wipe (σ.set j x) vs = wipe σ vs := by
  refine List.ext_getElem? fun i => ?_
  rw [wipe_get, wipe_get, List.length_set]
  by_cases hi : i ∈ vs ∧ i < σ.length
  · rw [if_pos hi, if_pos hi]
  · rw [if_neg hi, if_neg hi]
    by_cases hj : j = i
    · subst hj
      rw [List.getElem?_eq_none (by rw [List.length_set]; exact Nat.le_of_not_lt fun z => hi ⟨h, z⟩), List.getElem?_eq_none (Nat.le_of_not_lt fun z => hi ⟨h, z⟩)]
    · rw [List.getElem?_set_ne hj]
theorem wipe_wipe (σ : L2.St) (vs : List Nat) : wipe (wipe σ vs) vs = wipe σ vs := by
  refine List.ext_getElem? fun i => ?_
  rw [wipe_get, wipe_get, wipe_length]
  by_cases hi : i ∈ vs ∧ i < σ.length
  · rw [if_pos hi, if_pos hi]
  · rw [if_neg hi]
def wipeD (Γ : Sl) : List Nat → Sl
  | [] => Γ
  | v :: vs => (wipeD Γ vs).set v none
theorem wipeD_length (Γ : Sl) : ∀ vs : List Nat, (wipeD Γ vs).length = Γ.length
  | [] => rfl
  | v :: vs => by unfold wipeD; rw [List.length_set, wipeD_length Γ vs]
theorem sok_wipe {K : PySem.W.Frag} {Γ : Sl} {P : Hp} {σ : L2.St} (h : SOk K Γ P σ) : ∀ vs : List Nat, SOk K (wipeD Γ vs) P (wipe σ vs)
  | [] => h
  | v :: vs => by
    have ih := sok_wipe h vs
    refine ⟨by rw [wipeD_length, wipe_length]; exact h.len, fun i d q => ?_⟩
    unfold wipeD at q
    unfold wipe
    by_cases hv : v = i
    · subst hv
      by_cases hb : v < (wipeD Γ vs).length
      · rw [List.getElem?_set_self hb] at q
        cases q
      · rw [List.getElem?_eq_none (by rw [List.length_set]; omega)] at q
        cases q
    · rw [List.getElem?_set_ne hv] at q
      rw [List.getElem?_set_ne hv]
      exact ih.at_ i d q
section
variable {X : Cx} {Γ : Sl} {M : Mem} {Φ : VP} {Ψ : Po} {elt tg iter : Expr} {ifs : List Expr} {scope : Scope} {own : List (Str × Nat)} {pos : Pos}
/-- the tests of a comprehension -/
def wpTs (X : Cx) (ifs : List Expr) : TT := fun σ H Q => ∀ pins s, Inv X pins σ H s → wpAny (model X.prog X.w) X.A (forIn ifs true fun c r => if r = true then do let ok ← isTrue c X.env (eval c X.env); pure (ForInStep.yield ok) else pure (ForInStep.yield r)) (TP X pins σ Q) X.xe s
def WTs (X : Cx) (Γ : Sl) (M : Mem) (ifs : List Expr) (B : Bool → Mem → Prop) : Prop := ∀ P σ H, SOk X.K Γ P σ → MOk X.K M P H → wpTs X ifs σ H (FinB X.K P B)
theorem wts_nil {B : Bool → Mem → Prop} (h : B true M) : WTs X Γ M [] B := fun P σ H s m pins sh I => pts_nil.run pins sh σ H _ I (show FinB X.K P B true H from ⟨M, P, h, Same.refl P, m⟩)
theorem wts_one {B : Bool → Mem → Prop} {c : Expr} (h : WT X Γ M c B) : WTs X Γ M [c] B := fun P σ H s m pins sh I => (pts_one pt_wp).run pins sh σ H _ I (h P σ H s m)
/-- a block's context -/
abbrev blkOf (X : Cx) (scope : Scope) (s : Shared) (H : Hp) (C : Addr) (cl : List (Str × Addr)) (fp : List Addr) : Cx := X.blk s H scope (compEnvC scope cl C X.env) fp
/-- one turn of a comprehension: out is made so far (at l, ahead of the other objects of one's own) -/
def Turn1 (X : Cx) (scope : Scope) (ifs : List Expr) (elt : Expr) (J : List D → Mem → Prop) (Γ' : Sl) (l : Addr) (out : List D) (M' : Mem) : Prop := ∀ s H C cl fp,
  WTs (blkOf X scope s H C cl fp) Γ' ((l, .lst out) :: M') ifs fun k M1 => (k = true → ∀ s H C cl fp, WE (blkOf X scope s H C cl fp) Γ' M1 elt fun y M2 => ∃ M3, M2 = (l, .lst out) :: M3 ∧ out.length < sizeLine ∧ J (out ++ [y]) M3) ∧ (k = false → ∃ M3, M1 = (l, .lst out) :: M3 ∧ J out M3)
/-- what a turn leaves: l's list, the others -/
def LcInv (K : PySem.W.Frag) (P : Hp) (l : Addr) (J : List D → Mem → Prop) (H : Hp) : Prop := ∃ out M' P', J out M' ∧ Ex P P' ∧ MOk K ((l, .lst out) :: M') P' H
def tsB (X : Cx) (scope : Scope) (ifs : List Expr) : TT := fun σ H Q => ∀ s H0 C cl fp, wpTs (blkOf X scope s H0 C cl fp) ifs σ H Q
def teB (X : Cx) (scope : Scope) (elt : Expr) : TE := fun σ H Q => ∀ s H0 C cl fp, wpT (blkOf X scope s H0 C cl fp) elt σ H Q
theorem lc_turn {J : List D → Mem → Prop} {Γ' : Sl} {l : Addr} {out : List D} {M' : Mem} {P P' : Hp} {σ : L2.St} {H : Hp} (t : Turn1 X scope ifs elt J Γ' l out M') (e : Ex P P') (s : SOk X.K Γ' P' σ) (m : MOk X.K ((l, .lst out) :: M') P' H) :
    tsB X scope ifs σ H fun b H3 => if b = true then teB X scope elt σ H3 fun y H4 => ∃ acc, H4 l = some (.lst acc) ∧ acc.length < sizeLine ∧ LcInv X.K P l J (upd H4 l (.lst (acc ++ [y]))) else LcInv X.K P l J H3 := by
  intro s0 H0 C cl fp pins sh I
  refine thn (t s0 H0 C cl fp P' σ H s m pins sh I) fun b sh2 ⟨H2, I2, M1, P1, q, e1, m1⟩ => ⟨H2, I2, ?_⟩
  cases b with
  | false =>
    obtain ⟨M3, e3, j3⟩ := q.2 rfl
    subst e3
    exact iteF ⟨out, M3, P1, j3, e.trans e1, m1⟩
  | true =>
    refine iteT fun s0' H0' C' cl' fp' => ?_
    refine (q.1 rfl s0' H0' C' cl' fp' P1 σ H2 (s.mono e1) m1).mono fun v H4 ⟨d, M4, P4, ⟨M3, eM, hl, j4⟩, e4, m4, i4⟩ => ?_
    subst eM
    obtain ⟨_, xs, h1, h2⟩ := m4.at_ l _ List.mem_cons_self
    refine ⟨xs, h1, by rw [h2.1]; exact hl, out ++ [d], M3, P4, j4, (e.trans e1).trans e4, ?_⟩
    exact m4.put (k := 0) rfl ⟨_, upd_same, h2.append (.cons i4 .nil)⟩
/-- [elt for x in list if ..], a list of one's own; J: what holds by the turn -/
theorem we_lcL {x : Str} {px : Pos} {j : Nat} (hN : X.N.Nodup)
    (h : WE X Γ M iter fun d M1 => ∃ (J : Nat → List D → Mem → Prop) (xs : List D), d = .lst xs ∧ J 0 [] M1 ∧
      (∀ (i : Nat) (y : D) (l : Addr) (out : List D) (M' : Mem), xs[i]? = some y → J i out M' → Turn1 X scope ifs elt (J (i + 1)) ((wipeD Γ (own.map (·.2))).set j (some y)) l out M') ∧ ∀ l out M', J xs.length out M' → Φ (.adr l) ((l, .lst out) :: M'))
    (hj : j ∈ own.map (·.2)) (ok : BlkOk X.N X.env.scope scope own) (hc : X.calm = true)
    (hg : ∀ (s : Shared) (H : Hp) (C : Addr) (cl : List (Str × Addr)) (fp : List Addr), PG (X.blk s H scope (compEnvC scope cl C X.env) fp) (.Name x px) (gName j))
    (hs : ∀ x, foldedSetIterable iter X.env x = pure x) : WE X Γ M (.ListComp elt [⟨.Name x px, iter, ifs, 0⟩] scope pos) Φ := fun P σ H s m => by
  refine wpT_of (pe_lc (tt := tsB X scope ifs) (te := teB X scope elt) hc hN (pi_list pe_wp) ok hg (fun s0 H0 C cl fp => ⟨fun pins sh σ' H' Q I q => q s0 H0 C cl fp pins sh I⟩) (fun s0 H0 C cl fp => ⟨fun pins sh σ' H' Q I q => q s0 H0 C cl fp pins sh I⟩) hs) ?_
  refine (h P σ H s m).mono fun v H1 ⟨d, M1, P1, ⟨J, xs, hd, j0, hstep, hdone⟩, e1, m1, i1⟩ => ?_
  subst hd
  cases i1 with
  | @lst a vs _ hq hl hi =>
    refine ⟨a, rfl, ⟨vs, m1.ex.seq hq⟩, fun l hn => lc_list (xs := vs) (fun i => LcInv X.K P1 l (J i)) ⟨[], M1, P1, j0, Same.refl P1, m1.own hn ⟨[], upd_same, .nil⟩⟩ (fun i H' _ ⟨out, M', P', jj, e', m'⟩ => (m'.ex.seq (e'.seq hq))) ?_ ?_⟩
    · rintro i x0 H' hx ⟨out, M', P', jj, e', m'⟩
      obtain ⟨y, hy, iy⟩ := IsDs.getV (K := X.K) (P := P1) ⟨hl, hi⟩ hx
      refine ⟨by rw [wipe_set hj, wipe_wipe], ?_⟩
      exact lc_turn (hstep i y l out M' hy jj) e' ((sok_wipe (s.mono (e1.trans e')) (own.map (·.2))).set (iy.mono e')) m'
    · rintro H' ⟨out, M', P', jj, e', m'⟩
      exact ⟨_, _, P', hdone l out M' (by rw [← hl]; exact jj), e1.trans e', m', .adr⟩
/-- [elt for x in tuple if ..], a list of one's own; J: what holds by the turn -/
theorem we_lcT {x : Str} {px : Pos} {j : Nat} (hN : X.N.Nodup)
    (h : WE X Γ M iter fun d M1 => ∃ (J : Nat → List D → Mem → Prop) (xs : List D), d = .tup xs ∧ J 0 [] M1 ∧
      (∀ (i : Nat) (y : D) (l : Addr) (out : List D) (M' : Mem), xs[i]? = some y → J i out M' → Turn1 X scope ifs elt (J (i + 1)) ((wipeD Γ (own.map (·.2))).set j (some y)) l out M') ∧ ∀ l out M', J xs.length out M' → Φ (.adr l) ((l, .lst out) :: M'))
    (hj : j ∈ own.map (·.2)) (ok : BlkOk X.N X.env.scope scope own) (hc : X.calm = true)
    (hg : ∀ (s : Shared) (H : Hp) (C : Addr) (cl : List (Str × Addr)) (fp : List Addr), PG (X.blk s H scope (compEnvC scope cl C X.env) fp) (.Name x px) (gName j))
    (hs : ∀ x, foldedSetIterable iter X.env x = pure x) : WE X Γ M (.ListComp elt [⟨.Name x px, iter, ifs, 0⟩] scope pos) Φ := fun P σ H s m => by
  refine wpT_of (pe_lc (tt := tsB X scope ifs) (te := teB X scope elt) hc hN (pi_tup pe_wp) ok hg (fun s0 H0 C cl fp => ⟨fun pins sh σ' H' Q I q => q s0 H0 C cl fp pins sh I⟩) (fun s0 H0 C cl fp => ⟨fun pins sh σ' H' Q I q => q s0 H0 C cl fp pins sh I⟩) hs) ?_
  refine (h P σ H s m).mono fun v H1 ⟨d, M1, P1, ⟨J, xs, hd, j0, hstep, hdone⟩, e1, m1, i1⟩ => ?_
  subst hd
  cases i1 with
  | @tup a vs _ hq hl hi =>
    refine ⟨a, rfl, ⟨vs, Same.tupS m1.ex hq⟩, fun l hn => lc_tup (xs := vs) (fun i => LcInv X.K P1 l (J i)) ⟨[], M1, P1, j0, Same.refl P1, m1.own hn ⟨[], upd_same, .nil⟩⟩ (fun i H' _ ⟨out, M', P', jj, e', m'⟩ => (Same.tupS m'.ex (Same.tupS e' hq))) ?_ ?_⟩
    · rintro i x0 H' hx ⟨out, M', P', jj, e', m'⟩
      obtain ⟨y, hy, iy⟩ := IsDs.getV (K := X.K) (P := P1) ⟨hl, hi⟩ hx
      refine ⟨by rw [wipe_set hj, wipe_wipe], ?_⟩
      exact lc_turn (hstep i y l out M' hy jj) e' ((sok_wipe (s.mono (e1.trans e')) (own.map (·.2))).set (iy.mono e')) m'
    · rintro H' ⟨out, M', P', jj, e', m'⟩
      exact ⟨_, _, P', hdone l out M' (by rw [← hl]; exact jj), e1.trans e', m', .adr⟩
/-- a list of one's own that an expression leaves changes no more -/
theorem we_frz {e : Expr} (h : WE X Γ M e fun d M2 => ∃ l ds M3, d = .adr l ∧ M2 = (l, .lst ds) :: M3 ∧ Φ (.lst ds) M3) : WE X Γ M e Φ := fun P σ H s m =>
  (h P σ H s m).mono fun v H2 ⟨d, M2, P2, ⟨l, ds, M3, ed, eM, q⟩, e2, m2, i2⟩ => by
    subst ed eM
    cases i2
    obtain ⟨P4, e4, m4, i4⟩ := frz_lst m2
    exact ⟨_, M3, P4, q, e2.trans e4, m4, i4⟩
end
end Dt
set_option Elab.async false
set_option linter.all false
set_option maxRecDepth 100000
set_option maxHeartbeats 2000000
namespace Dt
open PySem PySem.Spec PyProof.Rows L2
mutual
def py : D → PyData
  | .non => .none
  | .bl b => .bool b
  | .int i => .int i
  | .str x => .str x
  | .tup xs => .tuple (pys xs)
  | .lst xs => .list (pys xs)
  | .ty _ => .none
  | .obj _ _ => .none
  | .adr _ => .none
  | .dic _ => .none
  | .exc _ _ _ _ => .none
  | .exv _ _ => .none
  | .dcs _ => .none
def pys : List D → List PyData
  | [] => []
  | x :: xs => py x :: pys xs
end
mutual
def okD : D → Bool
  | .non => true
  | .bl _ => true
  | .int _ => true
  | .str _ => true
  | .tup xs => okDs xs
  | .lst xs => okDs xs
  | .ty _ => false
  | .obj _ _ => false
  | .adr _ => false
  | .dic _ => false
  | .exc _ _ _ _ => false
  | .exv _ _ => false
  | .dcs _ => false
def okDs : List D → Bool
  | [] => true
  | x :: xs => okD x && okDs xs
end
section
variable {K : PySem.W.Frag} {P H : Hp}
mutual
theorem dp_of (e : Ex P H) : ∀ (d : D) (v : V), okD d = true → IsD K P v d → Dp K H v (py d)
  | .non, _, _, h => by cases h; exact .non
  | .bl b, _, _, h => by cases h; exact .bl b
  | .int i, _, _, h => by cases h; exact .int i
  | .str x, _, _, h => by cases h; exact .str x
  | .tup xs, _, o, h => by
    cases h with
    | tup hs hl hi => exact .tup (Same.tupS e hs) (dps_of e xs _ o ⟨hl, hi⟩)
  | .lst xs, _, o, h => by
    cases h with
    | lst hs hl hi => exact .lst (e.seq hs) (dps_of e xs _ o ⟨hl, hi⟩)
  | .ty _, _, o, _ => by cases o
  | .obj _ _, _, o, _ => by cases o
  | .adr _, _, o, _ => by cases o
  | .dic _, _, o, _ => by cases o
  | .exc _ _ _ _, _, o, _ => by cases o
  | .exv _ _, _, o, _ => by cases o
  | .dcs _, _, o, _ => by cases o
theorem dps_of (e : Ex P H) : ∀ (ds : List D) (vs : List V), okDs ds = true → IsDs K P vs ds → DpAll K H vs (pys ds)
  | [], _, _, h => by
    rw [h.unnil]
    exact .nil
  | d :: ds, vs, o, h => by
    obtain ⟨v, r, rfl, hv, hr⟩ := h.uncons
    have o2 : (okD d && okDs ds) = true := o
    obtain ⟨o3, o4⟩ := Bool.and_eq_true_iff.mp o2
    exact .cons (dp_of e d v o3 hv) (dps_of e ds r o4 hr)
end
end
/-- data that == takes -/
def shp (d : D) : Bool := okD d && SeqAt.shaped (py d)
/-- what d stands for, by the objects of one's own -/
def SeenD (M : Mem) (d e : D) : Prop := d = e ∨ ∃ (k : Nat) (l : Addr) (ds : List D), d = .adr l ∧ M[k]? = some (l, .lst ds) ∧ e = .lst ds
section
variable {X : Cx} {Γ : Sl} {M : Mem} {Φ : VP} {x y : D}
theorem SeenD.dp {K : PySem.W.Frag} {P H : Hp} {d e : D} {v : V} (h : SeenD M d e) (m : MOk K M P H) (i : IsD K P v d) (o : okD e = true) : Dp K H v (py e) := by
  rcases h with rfl | ⟨k, l, ds, rfl, hk, rfl⟩
  · exact dp_of m.ex _ _ o i
  · cases i
    obtain ⟨_, xs, h1, h2⟩ := m.get hk
    exact .lst (SqL.of h1) (dps_of m.ex ds xs o h2)
theorem od_neD {x' y' : D} (hu : X.A.units + 64 < cLine) (sx : SeenD M x x') (sy : SeenD M y y') (hx : shp x' = true) (hy : shp y' = true) (q : Φ (.bl (!PyData.eqv (py x') (py y'))) M) : OpD X (compareOp .NotEq) x y M Φ := fun P H a b m ia ib => by
  obtain ⟨h1, h2⟩ := Bool.and_eq_true_iff.mp hx
  obtain ⟨h3, h4⟩ := Bool.and_eq_true_iff.mp hy
  exact opT_of (op_neD hu) ⟨_, _, sx.dp m ia h1, sy.dp m ib h3, h2, h4, .one q m .bl⟩
end
end Dt
set_option Elab.async false
set_option linter.all false
set_option maxRecDepth 100000
set_option maxHeartbeats 2000000
namespace Dt
open PySem PySem.Spec PyProof.Rows L2
theorem lk_here {f : Str} {v : D} {r : List (Str × D)} : ((f, v) :: r).lookup f = some v := by simp
section
variable {X : Cx} {Γ : Sl} {M : Mem} {Φ : VP} {a b c : Expr} {pos : Pos} {B : Bool → Mem → Prop}
/-- not x as a value -/
theorem wnotv (h : WE X Γ M a fun d M1 => TrD X d M1 fun k M2 => Φ (.bl (!k)) M2) : WE X Γ M (.UnaryOp .Not a pos) Φ := fun P σ H s m pins sh I =>
  UnaryOp_ (thn (h P σ H s m pins sh I) fun v s1 ⟨x, H1, I1, r1, d, M1, P1, q, e1, m1, i1⟩ => not_of (thn (q P1 H1 x m1 i1 pins σ s1 v I1 r1) fun c s2 ⟨H2, I2, M2, P2, q2, e2, m2⟩ => ⟨.bl (!c), H2, I2, rfl, _, M2, P2, q2, e1.trans e2, m2, .bl⟩))
theorem wt_chain {op op' : CmpOp} (h : WE X Γ M a fun x M1 => WE X Γ M1 b fun y M2 => OpD X (compareOp op) x y M2 fun d M3 => ∃ k, d = .bl k ∧ (k = true → WE X Γ M3 c fun z M4 => OpD X (compareOp op') y z M4 fun d M5 => ∃ k, d = .bl k ∧ B k M5) ∧ (k = false → B false M3))
    (hq : PT X (.Compare a [op, op'] [b, c] pos) (tTest (tChain (opT X (compareOp op)) (opT X (compareOp op')) (wpT X a) (wpT X b) (wpT X c))) := by exact pt_chain op_wp op_wp pe_wp pe_wp pe_wp) : WT X Γ M (.Compare a [op, op'] [b, c] pos) B := fun P σ H s m =>
  wpB_of hq ((h P σ H s m).mono fun v H1 ⟨d, M1, P1, q, e1, m1, i1⟩ => (q P1 σ H1 (s.mono e1) m1).mono fun u H2 ⟨d2, M2, P2, q2, e2, m2, i2⟩ => (q2 P2 H2 v u m2 (i1.mono e2) i2).mono fun w H3 ⟨d3, M3, P3, ⟨k, ek, qt, qf⟩, e3, m3, i3⟩ => by
    subst ek
    cases i3
    refine ⟨k, rfl, ?_⟩
    cases k with
    | true => exact iteT ((qt rfl P3 σ H3 (s.mono ((e1.trans e2).trans e3)) m3).mono fun w' H4 ⟨d4, M4, P4, q4, e4, m4, i4⟩ => (q4 P4 H4 u w' m4 ((i2.mono e3).mono e4) i4).mono fun w5 H5 ⟨d5, M5, P5, ⟨k5, ek5, q5⟩, e5, m5, i5⟩ => by
        subst ek5
        cases i5
        exact ⟨k5, rfl, M5, P5, q5, (((e1.trans e2).trans e3).trans e4).trans e5, m5⟩)
    | false => exact iteF ⟨false, rfl, M3, P3, qf rfl, (e1.trans e2).trans e3, m3⟩)
end
section
variable {X : Cx} {Γ : Sl} {M : Mem} {Φ : VP} {Ψ : Po} {e o : Expr} {es : List Expr} {pos p apos : Pos} {k : Nat} {x : Str} {S : DS}
theorem wcB {id : String} (hm : X.mg x = none) (hv : bootBuiltins x = some (.builtin id)) (h : WA X Γ M (e :: es) fun ds M1 => CaD X (.builtin id) ds M1 Φ) (hg : Gl X x := by rfl) (hn : x ≠ "__name__" := by decide) (hdb : (x == ("__debug__" : Str)) = false := by decide)
    (he : starEach (e :: es) X.env = (false, eval e X.env) :: starEach es X.env := by rfl) (hpl : (backTo pos (starEach es X.env)).any (·.1) = false := by rfl) : WE X Γ M (.Call (.Name x p) (e :: es) [] pos) Φ :=
  we_callB hg hm hv hn hdb h (pe_callB ca_wp hg hm hv pa_wp hn hdb he hpl)
theorem wcT {T : String} (hm : X.mg x = none) (hv : bootBuiltins x = some (.type T)) (h : WA X Γ M (e :: es) fun ds M1 => CaD X (.type T) ds M1 Φ) (hg : Gl X x := by rfl) (hn : x ≠ "__name__" := by decide) (hdb : (x == ("__debug__" : Str)) = false := by decide)
    (he : starEach (e :: es) X.env = (false, eval e X.env) :: starEach es X.env := by rfl) (hpl : (backTo pos (starEach es X.env)).any (·.1) = false := by rfl) : WE X Γ M (.Call (.Name x p) (e :: es) [] pos) Φ :=
  we_callTy hg hm hv hn hdb h (pe_callTy ca_wp hg hm hv pa_wp hn hdb he hpl)
theorem wbt {n : String} (hm : X.mg x = none) (hv : bootBuiltins x = some (.type n)) (h : Φ (.ty n) M) (hg : Gl X x := by rfl) (hn : x ≠ "__name__" := by decide) (hd : (x == ("__debug__" : Str)) = false := by decide) : WE X Γ M (.Name x pos) Φ := we_bty hg hm hv hn hd h
theorem wgl {a : Addr} (hm : X.mg x = some (.ref a)) (h : Φ (.adr a) M) (hg : Gl X x := by rfl) (hd : (x == ("__debug__" : Str)) = false := by decide) : WE X Γ M (.Name x pos) Φ := we_glob hg hm hd h
theorem wcf (F : HasFn X.prog X.w X.K X.mg X.base k x S) (hr : Room k X.A) (h : WA X Γ M (e :: es) fun ds M1 => S ds M1 Φ) (hg : Gl X x := by rfl) (hdb : (x == ("__debug__" : Str)) = false := by decide) (he : starEach (e :: es) X.env = (false, eval e X.env) :: starEach es X.env := by rfl)
    (hpl : (backTo pos (starEach es X.env)).any (·.1) = false := by rfl) : WE X Γ M (.Call (.Name x p) (e :: es) [] pos) Φ := we_call F hr hg h hdb he hpl
end
/-- the built-in names that the module leaves alone -/
structure Bf (mg : Str → Option Value) : Prop where
  len : mg "len" = none
  all : mg "all" = none
  any : mg "any" = none
  isi : mg "isinstance" = none
  int : mg "int" = none
  bool : mg "bool" = none
  str : mg "str" = none
  tuple : mg "tuple" = none
  list : mg "list" = none
  range : mg "range" = none
  enum : mg "enumerate" = none
  zip : mg "zip" = none
  abs : mg "abs" = none
  max : mg "max" = none
  min : mg "min" = none
  sum : mg "sum" = none
  sorted : mg "sorted" = none
  repr : mg "repr" = none
  set : mg "set" = none
theorem bt_all : bootBuiltins "all" = some (.builtin "all") := by decide +kernel
section
variable {X : Cx} {Γ : Sl} {M : Mem} {Φ : VP} {elt iter : Expr} {scope : Scope} {own : List (Str × Nat)} {pos : Pos}
/-- [elt for x in lst ..], each item's element told by a function of the item's data -/
theorem lcMapL {x : Str} {px : Pos} {j : Nat} (hN : X.N.Nodup) (h : WE X Γ M iter fun d M1 => ∃ (xs : List D) (g : D → D), d = .lst xs ∧ xs.length < sizeLine ∧ (∀ (i : Nat) (y : D), xs[i]? = some y → ∀ l out s H C cl fp, WE (blkOf X scope s H C cl fp) ((wipeD Γ (own.map (·.2))).set j (some y)) ((l, .lst out) :: M1) elt fun z M2 => z = g y ∧ M2 = (l, .lst out) :: M1) ∧ Φ (.lst (xs.map g)) M1)
    (ok : BlkOk X.N X.env.scope scope own) (hg : ∀ (s : Shared) (H : Hp) (C : Addr) (cl : List (Str × Addr)) (fp : List Addr), PG (X.blk s H scope (compEnvC scope cl C X.env) fp) (.Name x px) (gName j)) (hj : j ∈ own.map (·.2) := by decide) (hc : X.calm = true := by rfl)
    (hs : ∀ x, foldedSetIterable iter X.env x = pure x := by intro _; rfl) : WE X Γ M (.ListComp elt [⟨.Name x px, iter, [], 0⟩] scope pos) Φ := by
  refine we_frz (we_lcL hN (h.mono fun d M1 ⟨xs, g, hd, hl, hstep, q⟩ => ⟨fun i out M' => out = (xs.take i).map g ∧ M' = M1, xs, hd, ⟨rfl, rfl⟩, ?_, ?_⟩) hj ok hc hg hs)
  · rintro i y l out M' hy ⟨rfl, rfl⟩ s H C cl fp
    refine wts_nil ⟨fun _ s H C cl fp => (hstep i y hy l _ s H C cl fp).mono fun z M2 ⟨hz, hM⟩ => ⟨_, hM, ?_, ?_, rfl⟩, fun z => by cases z⟩
    · rw [List.length_map, List.length_take]
      omega
    · rw [List.take_add_one, hy, List.map_append, hz]
      rfl
  · rintro l out M' ⟨rfl, rfl⟩
    refine ⟨l, _, _, rfl, rfl, ?_⟩
    rw [List.take_length]
    exact q
/-- [elt for x in lst if test] -/
theorem lcMapLF {x : Str} {px : Pos} {j : Nat} {test : Expr} (hN : X.N.Nodup) (h : WE X Γ M iter fun d M1 => ∃ (xs : List D) (p : D → Bool) (g : D → D), d = .lst xs ∧ xs.length < sizeLine ∧ (∀ (i : Nat) (y : D), xs[i]? = some y → ∀ l out s H C cl fp, WT (blkOf X scope s H C cl fp) ((wipeD Γ (own.map (·.2))).set j (some y)) ((l, .lst out) :: M1) test fun k M2 => k = p y ∧ M2 = (l, .lst out) :: M1) ∧
      (∀ (i : Nat) (y : D), xs[i]? = some y → p y = true → ∀ l out s H C cl fp, WE (blkOf X scope s H C cl fp) ((wipeD Γ (own.map (·.2))).set j (some y)) ((l, .lst out) :: M1) elt fun z M2 => z = g y ∧ M2 = (l, .lst out) :: M1) ∧ Φ (.lst ((xs.filter p).map g)) M1)
    (ok : BlkOk X.N X.env.scope scope own) (hg : ∀ (s : Shared) (H : Hp) (C : Addr) (cl : List (Str × Addr)) (fp : List Addr), PG (X.blk s H scope (compEnvC scope cl C X.env) fp) (.Name x px) (gName j)) (hj : j ∈ own.map (·.2) := by decide) (hc : X.calm = true := by rfl)
    (hs : ∀ x, foldedSetIterable iter X.env x = pure x := by intro _; rfl) : WE X Γ M (.ListComp elt [⟨.Name x px, iter, [test], 0⟩] scope pos) Φ := by
  refine we_frz (we_lcL hN (h.mono fun d M1 ⟨xs, p, g, hd, hl, htest, hstep, q⟩ => ⟨fun i out M' => out = ((xs.take i).filter p).map g ∧ M' = M1, xs, hd, ⟨rfl, rfl⟩, ?_, ?_⟩) hj ok hc hg hs)
  · rintro i y l out M' hy ⟨rfl, rfl⟩ s H C cl fp
    have ht : xs.take (i + 1) = xs.take i ++ [y] := by
      rw [List.take_add_one, hy]
      rfl
    refine wts_one ((htest i y hy l _ s H C cl fp).mono fun k M2 ⟨hk, hM⟩ => ?_)
    subst hk hM
    refine ⟨fun hp s H C cl fp => (hstep i y hy hp l _ s H C cl fp).mono fun z M2 ⟨hz, hM⟩ => ⟨_, hM, ?_, ?_, rfl⟩, fun hp => ⟨_, rfl, ?_, rfl⟩⟩
    · rw [List.length_map]
      have h1 := List.length_filter_le p (xs.take i)
      rw [List.length_take] at h1
      omega
    · rw [ht, List.filter_append, List.map_append, hz, List.filter_cons, if_pos hp]
      rfl
    · rw [ht, List.filter_append, List.filter_cons, if_neg (by rw [hp]; decide)]
      simp
  · rintro l out M' ⟨rfl, rfl⟩
    refine ⟨l, _, _, rfl, rfl, ?_⟩
    rw [List.take_length]
    exact q
/-- [elt for x in tup ..], each item's element told by a function of the item's data -/
theorem lcMapT {x : Str} {px : Pos} {j : Nat} (hN : X.N.Nodup) (h : WE X Γ M iter fun d M1 => ∃ (xs : List D) (g : D → D), d = .tup xs ∧ xs.length < sizeLine ∧ (∀ (i : Nat) (y : D), xs[i]? = some y → ∀ l out s H C cl fp, WE (blkOf X scope s H C cl fp) ((wipeD Γ (own.map (·.2))).set j (some y)) ((l, .lst out) :: M1) elt fun z M2 => z = g y ∧ M2 = (l, .lst out) :: M1) ∧ Φ (.lst (xs.map g)) M1)
    (ok : BlkOk X.N X.env.scope scope own) (hg : ∀ (s : Shared) (H : Hp) (C : Addr) (cl : List (Str × Addr)) (fp : List Addr), PG (X.blk s H scope (compEnvC scope cl C X.env) fp) (.Name x px) (gName j)) (hj : j ∈ own.map (·.2) := by decide) (hc : X.calm = true := by rfl)
    (hs : ∀ x, foldedSetIterable iter X.env x = pure x := by intro _; rfl) : WE X Γ M (.ListComp elt [⟨.Name x px, iter, [], 0⟩] scope pos) Φ := by
  refine we_frz (we_lcT hN (h.mono fun d M1 ⟨xs, g, hd, hl, hstep, q⟩ => ⟨fun i out M' => out = (xs.take i).map g ∧ M' = M1, xs, hd, ⟨rfl, rfl⟩, ?_, ?_⟩) hj ok hc hg hs)
  · rintro i y l out M' hy ⟨rfl, rfl⟩ s H C cl fp
    refine wts_nil ⟨fun _ s H C cl fp => (hstep i y hy l _ s H C cl fp).mono fun z M2 ⟨hz, hM⟩ => ⟨_, hM, ?_, ?_, rfl⟩, fun z => by cases z⟩
    · rw [List.length_map, List.length_take]
      omega
    · rw [List.take_add_one, hy, List.map_append, hz]
      rfl
  · rintro l out M' ⟨rfl, rfl⟩
    refine ⟨l, _, _, rfl, rfl, ?_⟩
    rw [List.take_length]
    exact q
end
end Dt
set_option Elab.async false
set_option linter.all false
set_option maxRecDepth 100000
set_option maxHeartbeats 2000000
namespace Dt
open PySem PySem.Spec PyProof.Rows L2
section
variable {X : Cx} {Γ : Sl} {M : Mem} {Φ : VP} {x y : D} {i j v : Int}
theorem eqv_same {x : D} (h : shp x = true) : PyData.eqv (py x) (py x) = true := SeqAt.eqv_refl _ (SeqAt.canLay_of_shaped (Bool.and_eq_true_iff.mp h).2)
theorem od_neSame (hu : X.A.units + 64 < cLine) (e : x = y) (h : shp x = true) (q : Φ (.bl false) M) : OpD X (compareOp .NotEq) x y M Φ := by
  subst e
  refine od_neD hu (.inl rfl) (.inl rfl) h h ?_
  rw [eqv_same h]
  exact q
theorem od_powV (hc : 0 ≤ j ∧ j ≤ 1000000 ∧ i.natAbs < 2 ^ 64) (hv : i ^ j.toNat = v) (q : Φ (.int v) M) : OpD X (binaryOp .Pow) (.int i) (.int j) M Φ := od_pow hc (by rw [hv]; exact q)
end
def Wk (A B : Sl) : Prop := A.length = B.length ∧ ∀ (i : Nat) (d : D), A[i]? = some (some d) → B[i]? = some (some d)
theorem wkE : Wk [] [] := ⟨rfl, fun _ _ h => h⟩
theorem wkS {x : Option D} {A B : Sl} (h : Wk A B) : Wk (x :: A) (x :: B) := ⟨by rw [List.length_cons, List.length_cons, h.1], fun i d q => by
  cases i with
  | zero => exact q
  | succ i => exact h.2 i d q⟩
theorem wkN {y : Option D} {A B : Sl} (h : Wk A B) : Wk (none :: A) (y :: B) := ⟨by rw [List.length_cons, List.length_cons, h.1], fun i d q => by
  cases i with
  | zero => cases q
  | succ i => exact h.2 i d q⟩
theorem ws_wk {X : Cx} {Γ Γ' : Sl} {M M' : Mem} {sts : List Stmt} {Ψ : Po} (w : Wk Γ' Γ) (hm : M'.Sublist M) (h : WS X Γ' M' sts Ψ) : WS X Γ M sts Ψ := ws_weak h w.1 w.2 hm
end Dt
set_option Elab.async false
set_option linter.all false
set_option maxRecDepth 100000
set_option maxHeartbeats 2000000
namespace Dt
open PySem PySem.Spec PyProof.Rows L2
section
variable {P : Program} {w : World} {K : Fg} {h base : Heap} {mg : Str → Option Value} {k : Nat} {x C m qual : Str} {params : Arguments} {body : List Stmt} {scope : Scope} {fd : FuncData} {ps : List Str} {S : DS}
theorem hasFn (X : K.In h) (G : h.Ns mainGlobals mg) (F : FunD K x qual params body scope [] [] (locG x K) fd) (b : Binds K fd ps []) (g : (He.Fa.glo x).ok K = true) (F1 : FnOk P w K mg base CX0 k (locG x K) fd ps (spOf K S)) : HasFn P w K mg base k x S := ⟨_, fd, ps, F1, He.glo_ok X G g, F.kp, b⟩
end
end Dt
set_option Elab.async false
set_option linter.all false
set_option maxRecDepth 100000
set_option maxHeartbeats 2000000
namespace Dt
open PySem PySem.Spec PyProof.Rows L2
section
variable {X : Cx} {Γ : Sl} {M : Mem} {Φ : VP} {d : D} {C C' : Addr} {fs : List (Str × D)} {b : Bool} {t n : String}
/-- isinstance(o, C) of an own object -/
theorem cd_isiC (ho : ObjD M d C fs) (hI : IsF X.K C) (hk : PySem.W.kitOne X.K (.ref C) (.ref C') = some b) (q : Φ (.bl b) M) : CaD X (.builtin "isinstance") [d, .adr C'] M Φ := cd_of call_isi fun P H vs m h => by
  obtain ⟨v, v2, rfl, hv, hv2⟩ := h.un2
  cases hv2
  exact ⟨v, .ref C', _, _, b, rfl, .own C', hI.ty ho m hv, hk, .one q m .bl⟩
/-- .. of plain data -/
theorem cd_isiTC (ht : tyD d = some t) (hk : PySem.W.kitOne X.K (.type t) (.ref C') = some b) (q : Φ (.bl b) M) : CaD X (.builtin "isinstance") [d, .adr C'] M Φ := cd_of call_isi fun P H vs m h => by
  obtain ⟨v, v2, rfl, hv, hv2⟩ := h.un2
  cases hv2
  exact ⟨v, .ref C', _, _, b, rfl, .own C', tyX_of m hv ht, hk, .one q m .bl⟩
end
theorem isB_ok {K : Fg} {C : Str} (c : Cls K (He.ga K C)) (h : isB K C = true) : IsF K (He.ga K C) := by
  unfold isB at h
  rw [Bool.and_eq_true, Bool.and_eq_true, Bool.and_eq_true] at h
  obtain ⟨⟨⟨h1, h2⟩, h3⟩, h4⟩ := h
  exact ⟨c, He.eqO_ok h1, He.eqO_ok h2, of_decide_eq_true h3, of_decide_eq_true h4⟩
end Dt
set_option Elab.async false
set_option linter.all false
set_option maxRecDepth 100000
set_option maxHeartbeats 2000000
namespace Dt
open PySem PySem.Spec PyProof.Rows L2
/-- lo, .., hi -/
def rr (lo hi : Int) : List Int := (List.range (hi - lo + 1).toNat).map fun k : Nat => lo + (k : Int)
end Dt
set_option Elab.async false
set_option linter.all false
set_option maxRecDepth 100000
set_option maxHeartbeats 2000000
namespace Dt
open PySem PySem.Spec PyProof.Rows L2
theorem getMap {α : Type} {f : α → D} {L : List α} {i : Nat} {y : D} (h : (L.map f)[i]? = some y) : ∃ z, L[i]? = some z ∧ y = f z := by
  rw [List.getElem?_map] at h
  cases e : L[i]? with
  | none => rw [e] at h; cases h
  | some z =>
    rw [e] at h
    cases h
    exact ⟨z, rfl, rfl⟩
end Dt
set_option Elab.async false
set_option linter.all false
set_option maxRecDepth 100000
set_option maxHeartbeats 2000000
namespace Dt
open PySem PySem.Spec PyProof.Rows L2
def cutD (xs : List D) (lo hi : Option Int) : List D := (xs.drop (HT.sIx xs.length 0 lo)).take (HT.sIx xs.length xs.length hi - HT.sIx xs.length 0 lo)
theorem isDs_cut {K : PySem.W.Frag} {P : Hp} {xs : List V} {ds : List D} (h : IsDs K P xs ds) (lo hi : Option Int) : IsDs K P (cutV xs lo hi) (cutD ds lo hi) := by
  have hl := h.1
  unfold cutV cutD
  rw [hl]
  refine ⟨by rw [List.length_take, List.length_take, List.length_drop, List.length_drop, hl], fun i x d a b => ?_⟩
  rw [List.getElem?_take, List.getElem?_drop] at a b
  by_cases hlt : i < HT.sIx ds.length ds.length hi - HT.sIx ds.length 0 lo
  · rw [if_pos hlt] at a b
    exact h.2 _ x d a b
  · rw [if_neg hlt] at a
    cases a
/-- a part of a slice -/
def WO (X : Cx) (Γ : Sl) (M : Mem) : Option Expr → (Option Int → Mem → Prop) → Prop
  | none, Φ => Φ none M
  | some e, Φ => WE X Γ M e fun d M1 => ∃ i, d = .int i ∧ Φ (some i) M1
section
variable {X : Cx} {Γ : Sl} {M : Mem} {Φ : VP} {e : Expr} {lo hi : Option Expr} {pos p2 : Pos}
def tO (X : Cx) : Option Expr → TO
  | none => tNoPart
  | some e => tPart (wpT X e)
theorem po_wp : ∀ o : Option Expr, PO X o (tO X o)
  | none => po_none
  | some e => po_some pe_wp
theorem wo_run {o : Option Expr} {F : Option Int → Mem → Prop} {P : Hp} {σ : L2.St} {H : Hp} (h : WO X Γ M o F) (s : SOk X.K Γ P σ) (m : MOk X.K M P H) {Q : Option Int → Hp → Prop} (q : ∀ i M1 P1 H1, F i M1 → Ex P P1 → MOk X.K M1 P1 H1 → Q i H1) : tO X o σ H Q := by
  cases o with
  | none => exact q _ _ P H h (Same.refl P) m
  | some e =>
    refine (h P σ H s m).mono fun v H1 ⟨d, M1, P1, ⟨i, ed, z⟩, e1, m1, i1⟩ => ?_
    subst ed
    cases i1
    exact ⟨i, rfl, q _ _ P1 H1 z e1 m1⟩
/-- xs[a:b], a new list of one's own -/
theorem we_slO (h : WE X Γ M e fun d M1 => WO X Γ M1 lo fun i M2 => WO X Γ M2 hi fun j M3 => ∃ ds, (d = .lst ds ∨ ∃ (k : Nat) (l : Addr), d = .adr l ∧ M3[k]? = some (l, .lst ds)) ∧ ∀ l, Φ (.adr l) ((l, .lst (cutD ds i j)) :: M3)) : WE X Γ M (.Subscript e (.Slice lo hi none p2) pos) Φ := fun P σ H s m => by
  refine wpT_of (pe_slice sl_list pe_wp (po_wp lo) (po_wp hi)) ((h P σ H s m).mono fun v H1 ⟨d, M1, P1, q, e1, m1, i1⟩ => wo_run q (s.mono e1) m1 fun i M2 P2 H2 q2 e2 m2 => wo_run q2 (s.mono (e1.trans e2)) m2 fun j M3 P3 H3 ⟨ds, hd, q3⟩ e3 m3 => ?_)
  have e13 := (e1.trans e2).trans e3
  have i3 := (i1.mono e2).mono e3
  rcases hd with rfl | ⟨k, l, rfl, hk⟩
  · cases i3 with
    | lst hs hl hi => exact ⟨_, _, rfl, m3.ex.seq hs, fun p hp => ⟨_, _, P3, q3 p, e13, m3.own hp ⟨_, upd_same, isDs_cut ⟨hl, hi⟩ i j⟩, .adr⟩⟩
  · cases i3
    obtain ⟨_, xs, h1, h2⟩ := m3.get hk
    exact ⟨_, _, rfl, SqL.of h1, fun p hp => ⟨_, _, P3, q3 p, e13, m3.own hp ⟨_, upd_same, isDs_cut h2 i j⟩, .adr⟩⟩
/-- xs[::-1], a new list of one's own -/
theorem we_revO {kk : Nat} {p1 p2 p3 : Pos} (h : WE X Γ M e fun d M1 => ∃ ds, (d = .lst ds ∨ ∃ (k : Nat) (l : Addr), d = .adr l ∧ M1[k]? = some (l, .lst ds)) ∧ ∀ l, Φ (.adr l) ((l, .lst ds.reverse) :: M1)) : WE X Γ M (.Subscript e (.Slice none none (some (.UnaryOp .USub (.Constant (.int 1) kk p1) p2)) p3) pos) Φ := fun P σ H s m => by
  refine wpT_of (pe_revL pe_wp) ((h P σ H s m).mono fun v H1 ⟨d, M1, P1, ⟨ds, hd, q⟩, e1, m1, i1⟩ => ?_)
  have rev : ∀ {xs : List V}, IsDs X.K P1 xs ds → IsDs X.K P1 xs.reverse ds.reverse := fun {xs} z => by
    refine ⟨by rw [List.length_reverse, List.length_reverse, z.1], fun i x d a b => ?_⟩
    have hi : i < xs.length := by
      have := (List.getElem?_eq_some_iff.mp a).1
      rwa [List.length_reverse] at this
    rw [List.getElem?_reverse hi] at a
    rw [List.getElem?_reverse (by rw [← z.1]; exact hi), ← z.1] at b
    exact z.2 _ x d a b
  rcases hd with rfl | ⟨k, l, rfl, hk⟩
  · cases i1 with
    | lst hs hl hi => exact ⟨_, _, rfl, m1.ex.seq hs, fun p hp => ⟨_, _, P1, q p, e1, m1.own hp ⟨_, upd_same, rev ⟨hl, hi⟩⟩, .adr⟩⟩
  · cases i1
    obtain ⟨_, xs, h1, h2⟩ := m1.get hk
    exact ⟨_, _, rfl, SqL.of h1, fun p hp => ⟨_, _, P1, q p, e1, m1.own hp ⟨_, upd_same, rev h2⟩, .adr⟩⟩
end
section
variable {X : Cx} {Γ : Sl} {M : Mem} {Φ : VP}
theorem od_inSign {c : Nat} {z : Str} (q : Φ (.bl (decide (c ∈ z.cps.toList))) M) : OpD X (compareOp .In) (.str ⟨#[c]⟩) (.str z) M Φ := fun P H a b m ia ib => by
  cases ia
  cases ib
  exact opT_of op_in_sign ⟨c, z, rfl, rfl, .one q m .bl⟩
theorem inV_strs {x : Str} : ∀ zs : List Str, inV (.str x) (zs.map V.str) = decide (x ∈ zs)
  | [] => rfl
  | z :: zs => by
    have ih := inV_strs (x := x) zs
    show (eqV (.str z) (.str x) || inV (.str x) (zs.map V.str)) = _
    rw [ih, Bool.eq_iff_iff]
    show ((z == x) || decide (x ∈ zs)) = true ↔ _
    simp only [Bool.or_eq_true, beq_iff_eq, decide_eq_true_eq, List.mem_cons]
    exact ⟨fun h => h.elim (fun e => .inl e.symm) .inr, fun h => h.elim (fun e => .inl e.symm) .inr⟩
theorem flat_strs : ∀ zs : List Str, (zs.map V.str).all flatV = true
  | [] => rfl
  | z :: zs => by
    show (flatV (.str z) && (zs.map V.str).all flatV) = true
    rw [flat_strs zs]
    rfl
/-- a text in a tuple of texts -/
theorem od_inTS {x : Str} {zs : List Str} (q : Φ (.bl (decide (x ∈ zs))) M) : OpD X (compareOp .In) (.str x) (.tup (zs.map D.str)) M Φ := fun P H a b m ia ib => by
  cases ia
  cases ib with
  | tup hs hl hi =>
    rw [strs_of ⟨hl, hi⟩] at hs
    exact opT_of op_in_seq ⟨_, _, rfl, .inr (Same.tupS m.ex hs), rfl, flat_strs zs, .one (by rw [inV_strs]; exact q) m .bl⟩
theorem we_gint {x : Str} {i : Int} {pos : Pos} (hm : ∃ t, X.mg x = some (.int i t)) (h : Φ (.int i) M) (hg : Gl X x := by rfl) (hd : (x == ("__debug__" : Str)) = false := by decide) : WE X Γ M (.Name x pos) Φ := fun P σ H s m => by
  obtain ⟨t, hm⟩ := hm
  exact wpT_of (pe_glob (v := .int i) hg hm ⟨t, rfl⟩ hd) (.one h m .int)
theorem we_gstr {x z : Str} {pos : Pos} (hm : ∃ t, X.mg x = some (.str z t)) (h : Φ (.str z) M) (hg : Gl X x := by rfl) (hd : (x == ("__debug__" : Str)) = false := by decide) : WE X Γ M (.Name x pos) Φ := fun P σ H s m => by
  obtain ⟨t, hm⟩ := hm
  exact wpT_of (pe_glob (v := .str z) hg hm ⟨t, rfl⟩ hd) (.one h m .str)
theorem we_gtup {x : Str} {a : Addr} {zs : List Str} {pos : Pos} (hm : X.mg x = some (.ref a)) (ht : ∀ H : Hp, SqT X.K H a (zs.map V.str)) (h : Φ (.tup (zs.map D.str)) M) (hg : Gl X x := by rfl) (hd : (x == ("__debug__" : Str)) = false := by decide) : WE X Γ M (.Name x pos) Φ := fun P σ H s m =>
  wpT_of (pe_glob (v := .ref a) hg hm rfl hd) (.one h m (.tup (ht P) (by rw [List.length_map, List.length_map]) fun i v d p q => by
    rw [List.getElem?_map] at p q
    cases e : zs[i]? with
    | none => rw [e] at p; cases p
    | some n =>
      rw [e] at p q
      cases p
      cases q
      exact .str))
end
section
variable {X : Cx} {Γ : Sl} {M : Mem} {Φ : VP} {elt iter : Expr} {scope : Scope} {own : List (Str × Nat)} {pos : Pos}
theorem iteT' {p q : Prop} (h : if true = true then p else q) : p := h
theorem iteF' {p q : Prop} (h : if false = true then p else q) : q := h
theorem lcMapS {x : Str} {px : Pos} {j : Nat} (hN : X.N.Nodup) (h : WE X Γ M iter fun d M1 => ∃ (z : Str) (g : Nat → D), d = .str z ∧ z.cps.size < sizeLine ∧ (∀ c, c ∈ z.cps.toList → ∀ l out s H C cl fp, WE (blkOf X scope s H C cl fp) ((wipeD Γ (own.map (·.2))).set j (some (.str ⟨#[c]⟩))) ((l, .lst out) :: M1) elt fun y M2 => y = g c ∧ M2 = (l, .lst out) :: M1) ∧ Φ (.lst (z.cps.toList.map g)) M1)
    (ok : BlkOk X.N X.env.scope scope own) (hg : ∀ (s : Shared) (H : Hp) (C : Addr) (cl : List (Str × Addr)) (fp : List Addr), PG (X.blk s H scope (compEnvC scope cl C X.env) fp) (.Name x px) (gName j)) (hj : j ∈ own.map (·.2) := by decide) (hc : X.calm = true := by rfl)
    (hs : ∀ x, foldedSetIterable iter X.env x = pure x := by intro _; rfl) : WE X Γ M (.ListComp elt [⟨.Name x px, iter, [], 0⟩] scope pos) Φ := we_frz fun P σ H s m => by
  refine wpT_of (pe_lc (tt := tsB X scope []) (te := teB X scope elt) hc hN (pi_str pe_wp) ok hg (fun s0 H0 C cl fp => ⟨fun pins sh σ' H' Q I q => q s0 H0 C cl fp pins sh I⟩) (fun s0 H0 C cl fp => ⟨fun pins sh σ' H' Q I q => q s0 H0 C cl fp pins sh I⟩) hs) ?_
  refine (h P σ H s m).mono fun v H1 ⟨d, M1, P1, ⟨z, g, hd, hz, hstep, hdone⟩, e1, m1, i1⟩ => ?_
  subst hd
  cases i1
  refine ⟨z, rfl, fun l hn => ⟨fun i mm H' => mm = z.cps.size - i ∧ i ≤ z.cps.size ∧ LcInv X.K P1 l (fun out M' => out = (z.cps.toList.take i).map g ∧ M' = M1) H', ⟨_, rfl, Nat.zero_le _, [], M1, P1, ⟨rfl, rfl⟩, Same.refl P1, m1.own hn ⟨[], upd_same, .nil⟩⟩, ?_⟩⟩
  rintro i mm H' ⟨rfl, hi, out, M', P', ⟨rfl, rfl⟩, e', m'⟩
  by_cases hlt : i < z.cps.size
  · refine .inr ⟨hlt, fun H2 => i + 1 ≤ z.cps.size ∧ LcInv X.K P1 l (fun out M2 => out = (z.cps.toList.take (i + 1)).map g ∧ M2 = M') H2, fun H2 ⟨a, b⟩ => ⟨z.cps.size - (i + 1), by omega, rfl, a, b⟩, ?_⟩
    rintro x0 H2 ⟨rfl, c, hcc, rfl⟩
    have hc2 : z.cps.toList[i]? = some c := by rw [← hcc]; simp
    refine ⟨by rw [wipe_set hj, wipe_wipe], ?_⟩
    have hmem := List.mem_of_getElem? hc2
    have tn : Turn1 X scope [] elt (fun out M2 => i + 1 ≤ z.cps.size ∧ out = (z.cps.toList.take (i + 1)).map g ∧ M2 = M') ((wipeD Γ (own.map (·.2))).set j (some (.str ⟨#[c]⟩))) l ((z.cps.toList.take i).map g) M' := fun s1 H1 C1 cl1 fp1 =>
      wts_nil ⟨fun _ s2 H2 C2 cl2 fp2 => (hstep c hmem l _ s2 H2 C2 cl2 fp2).mono fun y M2 ⟨hy, hM⟩ => ⟨_, hM, by rw [List.length_map, List.length_take, Array.length_toList]; omega, hlt, by rw [List.take_add_one, hc2, List.map_append, hy]; rfl, rfl⟩, fun z => by cases z⟩
    have t2 := lc_turn (P := P1) tn e' ((sok_wipe (s.mono (e1.trans e')) (own.map (·.2))).set (.str (x := ⟨#[c]⟩))) m'
    intro s0 H0 C cl fp pins sh I
    refine thn (t2 s0 H0 C cl fp pins sh I) fun b sh2 ⟨H3, I3, q3⟩ => ⟨H3, I3, ?_⟩
    cases b with
    | false =>
      obtain ⟨o3, M3, P3, ⟨a1, a2⟩, a3⟩ := iteF' q3
      exact iteF ⟨a1, o3, M3, P3, a2, a3⟩
    | true =>
      refine iteT fun s0 H0 C cl fp => (iteT' q3 s0 H0 C cl fp).mono fun y H4 ⟨acc, h4, h5, o3, M3, P3, ⟨a1, a2⟩, a3⟩ => ⟨acc, h4, h5, a1, o3, M3, P3, a2, a3⟩
  · have ei : i = z.cps.size := by omega
    refine .inl ⟨(show z.cps.size ≤ i by omega), _, _, P', ⟨l, _, _, rfl, rfl, ?_⟩, e1.trans e', m', .adr⟩
    have et : z.cps.toList.take i = z.cps.toList := by rw [ei, ← Array.length_toList, List.take_length]
    rw [et]
    exact hdone
end
end Dt
set_option Elab.async false
set_option linter.all false
set_option maxRecDepth 100000
set_option maxHeartbeats 2000000
namespace Dt
open PySem PySem.Spec PyProof.Rows L2
section
variable {X : Cx} {Γ : Sl} {M : Mem} {Φ : VP} {e : Expr}
theorem wo_none {F : Option Int → Mem → Prop} (h : F none M) : WO X Γ M none F := h
theorem wo_some {F : Option Int → Mem → Prop} (h : WE X Γ M e fun d M1 => ∃ i, d = .int i ∧ F (some i) M1) : WO X Γ M (some e) F := h
theorem eqv_is : ∀ as bs : List Int, PyData.eqvAll (pys (as.map D.int)) (pys (bs.map D.int)) = decide (as = bs)
  | [], [] => rfl
  | [], b :: bs => rfl
  | a :: as, [] => rfl
  | a :: as, b :: bs => by
    show (PyData.eqv (.int a) (.int b) && PyData.eqvAll (pys (as.map D.int)) (pys (bs.map D.int))) = _
    rw [eqv_is as bs, Bool.eq_iff_iff]
    simp only [PyData.eqv, Bool.and_eq_true, beq_iff_eq, decide_eq_true_eq, List.cons.injEq]
theorem ok_is : ∀ ps : List Int, okDs (ps.map D.int) = true
  | [] => rfl
  | a :: as => by
    show (okD (.int a) && okDs (as.map D.int)) = true
    rw [ok_is as]
    rfl
theorem lay_is : ∀ ps : List Int, PyData.canLayAll0 (pys (ps.map D.int)) = true
  | [] => rfl
  | a :: as => by
    show PyData.canLayAll0 (.int a :: pys (as.map D.int)) = true
    simp only [PyData.canLayAll0, lay_is as, Bool.and_true]
    rfl
theorem deep_is : ∀ ps : List Int, PyData.depthAll (pys (ps.map D.int)) ≤ 1
  | [] => Nat.zero_le _
  | a :: as => by
    show max (PyData.depth (.int a)) (PyData.depthAll (pys (as.map D.int))) ≤ 1
    exact Nat.max_le.mpr ⟨(show 0 ≤ 1 from Nat.zero_le 1), deep_is as⟩
theorem shp_is (ps : List Int) : shp (.lst (ps.map D.int)) = true := by
  unfold shp SeqAt.shaped
  rw [show okD (.lst (ps.map D.int)) = true from ok_is ps, Bool.true_and, show PyData.canLay0 (py (.lst (ps.map D.int))) = true from lay_is ps, Bool.true_and]
  refine decide_eq_true ?_
  show PyData.depthAll (pys (ps.map D.int)) + 1 ≤ 64
  have := deep_is ps
  omega
/-- xs != [] of a list of numbers -/
theorem od_neI0 {k : Nat} {l : Addr} {gs : List Int} (hu : X.A.units + 64 < cLine) (hk : M[k]? = some (l, .lst (gs.map D.int))) (q : Φ (.bl (!decide (gs = []))) M) : OpD X (compareOp .NotEq) (.adr l) (.lst []) M Φ := by
  refine od_neD (x' := .lst (gs.map D.int)) (y' := .lst []) hu (.inr ⟨k, l, _, rfl, hk, rfl⟩) (.inl rfl) (shp_is gs) rfl ?_
  have e : PyData.eqv (py (.lst (gs.map D.int))) (py (.lst [])) = decide (gs = []) := eqv_is gs []
  rw [e]
  exact q
end
def gI (f : Int → Int) : D → D
  | .int i => .int (f i)
  | d => d
def pI (p : Int → Bool) : D → Bool
  | .int i => p i
  | _ => false
theorem map_gI (f : Int → Int) (is : List Int) : (is.map D.int).map (gI f) = (is.map f).map D.int := by
  rw [List.map_map, List.map_map]
  rfl
theorem filt_pI (p : Int → Bool) : ∀ is : List Int, ((is.map D.int).filter (pI p)).map (fun y => y) = (is.filter p).map D.int
  | [] => rfl
  | a :: as => by
    have ih := filt_pI p as
    rw [List.map_cons, List.filter_cons, List.filter_cons]
    show (if p a = true then _ else _ : List D).map _ = _
    split
    · rw [List.map_cons, ih]
      rfl
    · exact ih
def cutL {α : Type} (xs : List α) (lo hi : Option Int) : List α := (xs.drop (HT.sIx xs.length 0 lo)).take (HT.sIx xs.length xs.length hi - HT.sIx xs.length 0 lo)
theorem cut_map {α : Type} (f : α → D) (xs : List α) (lo hi : Option Int) : cutD (xs.map f) lo hi = (cutL xs lo hi).map f := by
  unfold cutD cutL
  rw [List.length_map, List.map_take, List.map_drop]
theorem cut_len {α : Type} (xs : List α) (lo hi : Option Int) : (cutL xs lo hi).length ≤ xs.length := by
  unfold cutL
  rw [List.length_take, List.length_drop]
  omega
def put2 (M : Mem) (k : Nat) (l l2 : Addr) (gs : List Int) (m : Int) : Mem := (M.set k (l, .lst [.adr l2, .int m])).set (k + 1) (l2, .lst (gs.map D.int))
section
variable {M : Mem} {k : Nat} {l l2 : Addr} {gs gs' : List Int} {m m' : Int} {x : Addr × MO}
theorem put2_self (h0 : M[k]? = some (l, .lst [.adr l2, .int m])) (h1 : M[k + 1]? = some (l2, .lst (gs.map D.int))) : put2 M k l l2 gs m = M := by
  obtain ⟨a0, e0⟩ := List.getElem?_eq_some_iff.mp h0
  obtain ⟨a1, e1⟩ := List.getElem?_eq_some_iff.mp h1
  unfold put2
  rw [← e0, List.set_getElem_self, ← e1, List.set_getElem_self]
theorem put2_put2 : put2 (put2 M k l l2 gs m) k l l2 gs' m' = put2 M k l l2 gs' m' := by
  unfold put2
  rw [List.set_comm _ _ (show k + 1 ≠ k by omega), List.set_set, List.set_set]
theorem get2_0 (h : k + 1 < M.length) : (put2 M k l l2 gs m)[k]? = some (l, .lst [.adr l2, .int m]) := by
  unfold put2
  rw [List.getElem?_set_ne (by omega), List.getElem?_set_self (by omega)]
theorem get2_1 (h : k + 1 < M.length) : (put2 M k l l2 gs m)[k + 1]? = some (l2, .lst (gs.map D.int)) := by
  unfold put2
  rw [List.getElem?_set_self (by rw [List.length_set]; exact h)]
theorem deal_put (h : k + 1 < M.length) (g : Good gs m) : DealAt (put2 M k l l2 gs m) k l l2 := ⟨gs, m, g, get2_0 h, get2_1 h⟩
theorem put2_pop {ys : List Int} {y : Int} : (put2 M k l l2 (ys ++ [y]) m).set (k + 1) (l2, .lst ((ys ++ [y]).map D.int).dropLast) = put2 M k l l2 ys m := by
  unfold put2
  rw [List.set_set, List.map_append, List.map_cons, List.map_nil, List.dropLast_concat]
theorem put2_push {ys : List Int} {y : Int} : (put2 M k l l2 ys m).set (k + 1) (l2, .lst (ys.map D.int ++ [.int y])) = put2 M k l l2 (ys ++ [y]) m := by
  unfold put2
  rw [List.set_set, List.map_append, List.map_cons, List.map_nil]
theorem put2_set1 : (put2 M k l l2 gs m).set k (l, .lst [.adr l2, .int m']) = put2 M k l l2 gs m' := by
  unfold put2
  rw [List.set_comm _ _ (show k + 1 ≠ k by omega), List.set_set]
theorem last_ints {ys : List Int} {y : Int} : atI ((ys ++ [y]).map D.int) (-1) = some (.int y) := by
  rw [List.map_append]
  exact atI_last _ _
theorem last_ints2 {ys : List Int} {y : Int} : ((ys ++ [y]).map D.int)[((ys ++ [y]).map D.int).length - 1]? = some (.int y) := by
  rw [List.map_append, List.map_cons, List.map_nil, List.length_append]
  simp
theorem snoc_cases (gs : List Int) : gs = [] ∨ ∃ ys y, gs = ys ++ [y] := by
  rcases List.eq_nil_or_concat gs with h | ⟨ys, y, h⟩
  · exact .inl h
  · exact .inr ⟨ys, y, by rw [h, List.concat_eq_append]⟩
theorem Good.pop {ys : List Int} {y : Int} (h : Good (ys ++ [y]) m) : Good ys m ∧ 0 ≤ y := by
  obtain ⟨h1, h2, h3, h4⟩ := h
  rw [List.length_append] at h2
  exact ⟨⟨fun g hg => h1 g (List.mem_append_left _ hg), by omega, h3, h4⟩, h1 y (List.mem_append_right _ List.mem_cons_self)⟩
theorem Good.push {ys : List Int} {y z : Int} (h : Good (ys ++ [y]) m) (hz : 0 ≤ z) : Good (ys ++ [z]) m := by
  obtain ⟨h1, h2, h3, h4⟩ := h
  rw [List.length_append] at h2
  refine ⟨fun g hg => ?_, by rw [List.length_append]; exact h2, h3, h4⟩
  rcases List.mem_append.mp hg with a | a
  · exact h1 g (List.mem_append_left _ a)
  · rw [List.mem_singleton] at a
    omega
end
end Dt
set_option Elab.async false
set_option linter.all false
set_option maxRecDepth 100000
set_option maxHeartbeats 2000000
set_option Elab.async false
set_option linter.all false
set_option maxRecDepth 100000
set_option maxHeartbeats 4000000
set_option Elab.async false
set_option linter.all false
set_option maxRecDepth 100000
set_option maxHeartbeats 4000000
namespace Dt
open PySem PySem.Spec PyProof.Rows L2
/-- what the class at C and its __init__ must be -/
structure SupC (P : Program) (K : PySem.W.Frag) (C cc cda : Addr) (x : Str) : Prop where
  oex : OexC K C
  along : PySem.W.ks_superIn K C C "__init__" = some (some (.builtin "ValueError.__init__"))
  sub : PySem.W.mroIn K C (.ref C) = some true
  val : PySem.W.subIn K (.ref C) (.type "ValueError") = some true
  opq : PySem.W.nsIn K cStatics "thirdparty.any" = some none
  noa : PySem.W.findIn K (.ref C) x = some none
  sup : PySem.W.nsIn K mainGlobals "super" = some none
  cell : ∃ cl cld csl, K.lookup cc = some ⟨cl, cld, .cell (some (.ref C)), csl⟩
  code : ∃ ccl cdd vs ccs file tf, K.lookup cda = some ⟨ccl, cdd, .fields vs, ccs⟩ ∧ vs[2]? = some (.str file tf) ∧ ((P.main.file : Str) == file) = true
  top : (P.main.scope.names.lookup ("super" : Str)).isSome = false
section
variable {P : Program} {w : World} {A : Around} {E : Value → Shared → Prop} {hp : Heap} {g : Array GenState} {d : Drawn} {t : Nat} {os : OsState} {K : PySem.W.Frag} {C a u : Addr}
/-- the bound built-in __init__ is called -/
theorem callMw {rest : List Value} {t0 : Addr} {Q : Value → Shared → Prop} (T : OexC K C) (X : K.In hp) (hu : hp.get? u = some (PySem.W.kxs_mw "ValueError.__init__" a)) (ha : hp.get? a = some (PySem.W.excObj C t0 none .none)) (hz : rest.length ≤ sizeLine)
    (h : ∀ h' t1, (∀ b o, b ≠ a → hp.get? b = some o → h'.get? b = some o) → h'.get? a = some (PySem.W.excObj C t1 none .none) → Q .none ⟨h', g, d, t, os⟩) : wpAny (model P w) A (call (.ref u) rest) Q E ⟨hp, g, d, t, os⟩ := by
  obtain ⟨nm, q, N, bs, bm, sn, sub, ab, col, dd, k0, k1, k2, k3, k5, hC, _⟩ := T.cls
  have hb := F.excBase_ValueError
  refine wpAny_call (codeAny_of_tree (show wpAny _ A.in1 (callAny (.ref u) ⟨rest, []⟩) _ _ _ from ?_))
  simp only [callAny]
  refine wpAny_bind (wpAny_load hu ?_)
  have e : (Value.type "method-wrapper" == Value.type "method" || Value.type "method-wrapper" == Value.type "builtin_function_or_method" || Value.type "method-wrapper" == Value.type "method-wrapper") = true := by decide
  simp only [PySem.W.kxs_mw, e, if_true]
  refine PySem.W.KFB.if_so (by decide) (wpAny_bind (PySem.W.check_bound_init hb.toExcCallFacts (X _ _ hC) ha rfl (wpAny_bind (wpAny_pure (wpAny_pure ⟨plainId_quiet hb.init.plain _, codeAny_builtin hb.initEntry ?_⟩)))))
  exact PySem.W.exc_init_tree (cls := .ref C) (c2 := .none) (c3 := .none) (b4 := .bool false) ha hz fun h' k1 k2 _ => h h' _ k1 k2
end
/-- the promise of such an __init__ -/
def spSup (C : Addr) (x : Str) : Sp := fun vs H Q _ => ∃ a y, vs = [.ref a, y] ∧ H a = some (exo a C none) ∧ ∀ dx, H dx = none → dx ≠ a → Q .non (upd (upd H dx (exd dx [(x, y)])) a (exo a C (some dx)))
/-- the scope of such an __init__ -/
structure SupS (scope : Scope) (x : Str) : Prop where
  kind : scope.kind = .function
  co : scope.isCoroutine = false
  gen : scope.isGenerator = false
  sup : scope.names.lookup ("super" : Str) = some .globalImplicit
  cls : scope.names.lookup ("__class__" : Str) = some .free
  self : scope.names.lookup ("self" : Str) = some .local
  arg : scope.names.lookup x = some .local
  noc : ∀ z, z ∈ scope.names → z.2 ≠ .cell
  fre : ∀ z, z ∈ scope.names → z.2 = .free → z.1 = ("__class__" : Str)
section
variable {P : Program} {w : World} {K : PySem.W.Frag} {mg : Str → Option Value} {base : Heap} {C cc cda f : Addr} {x name qual : Str} {params : Arguments} {scope : Scope} {dV kV doc pm ct oc : Value} {an od : Option Addr} {osl : Array (Option Value)} {ar : Arg}
/-- the context of its body -/
abbrev cxS (CX : CXT) (P : Program) (w : World) (K : PySem.W.Frag) (mg : Str → Option Value) (base : Heap) (x qual : Str) (scope : Scope) (f cda cc : Addr) (A : Around) (outer : List Env) (s : Shared) (H : Hp) (E : XK) : Cx :=
  { prog := P, w := w, K := K, mg := mg, base := base, A := A.deeper (PySem.W.ksEnv qual scope s.heap.objs.size f (.ref cda) cc), N := ["self", x], s_0 := s, H_0 := H, env := PySem.W.ksEnv qual scope s.heap.objs.size f (.ref cda) cc, outer := outer,
    stack := PySem.W.ksEnv qual scope s.heap.objs.size f (.ref cda) cc :: outer, ex := [], calm := true, fn := fun y => y != "__class__", pn := [],
    xe := fun e s' => wpAny (model P w) (A.deeper (PySem.W.ksEnv qual scope s.heap.objs.size f (.ref cda) cc)) (leaving (PySem.W.ksEnv qual scope s.heap.objs.size f (.ref cda) cc) e) (fun _ s'' => CX outer H s E e s'') (fun e' s'' => CX outer H s E e' s'') s' }
theorem lk_mem {l : List (Str × NameKind)} {y : Str} {z : NameKind} (h : l.lookup y = some z) : (y, z) ∈ l := PySem.mem_of_lookup h
theorem inv_sup {CX : CXT} {A : Around} {outer : List Env} {s : Shared} {H : Hp} {E : XK} {h0 : Heap} {tk : Nat} {a : Addr} {y : V} {u1 : Value} (S : SupC P K C cc cda x) (Sc : SupS scope x) (hx : x ≠ "self") (hx2 : x ≠ "__class__") (hd : A.handled = none) (e0 : Env0 P w K mg base A outer s H)
    (hns : h0.Ns s.heap.objs.size (fun z => ([("self", Value.ref a), (x, u1)] : List (Str × Value)).reverse.lookup z)) (hk : ∀ b o, s.heap.get? b = some o → h0.get? b = some o) (ru : RelV y u1) :
    Inv (cxS CX P w K mg base x qual scope f cda cc A outer s H E) [] [some (.ref a), some y] H { s with heap := h0, toks := tk } := by
  obtain ⟨cl, cld, csl, hcell⟩ := S.cell
  have hbc := e0.mod.kin _ _ hcell
  have hclk : ∀ z c, (PySem.W.ksEnv qual scope s.heap.objs.size f (.ref cda) cc).cells.lookup z = some c → z = "__class__" ∧ c = cc := fun z c h => by
    have h : ([(("__class__" : Str), cc)] : List (Str × Addr)).lookup z = some c := h
    by_cases hz : z = "__class__"
    · subst hz
      simp at h
      exact ⟨rfl, h.symm⟩
    · have : (z == ("__class__" : Str)) = false := by simpa using hz
      rw [List.lookup_cons, this] at h
      cases h
  refine ⟨⟨e0.mod, Sc.kind, rfl, rfl, Nat.le_refl _, fun z1 z2 c h1 h2 => ?_, fun z hz => ?_, fun z c h1 h2 => ?_, fun _ => hd, Around.frames_deeper e0.frames, .inr ⟨rfl, rfl⟩, fun b z => absurd z (by simp), e0.bs, e0.bsz, fun b _ _ => (by simp), fun b z => absurd z (by simp), e0.funs, e0.frf⟩,
    rfl, e0.bare, Un.kept hk, ⟨_, hns, fun i z v h1 h2 h3 => ?_⟩, fun z c h => ?_, e0.hok.fresh (Nat.le_refl _), fun z c h => ?_, fun p hp => absurd hp (by simp), e0.hok.kept hk, rfl⟩
  · rw [(hclk z1 c h1).1, (hclk z2 c h2).1]
  · have hz : scope.names.lookup z = some .cell ∨ scope.names.lookup z = some .free := hz
    rcases hz with hz | hz
    · exact absurd rfl (Sc.noc _ (lk_mem hz))
    · have e := Sc.fre _ (lk_mem hz) rfl
      dsimp only at e
      subst e
      exact ⟨cc, by simp⟩
  · obtain ⟨e, _⟩ := hclk z c h2
    subst e
    cases h1
  · match i, h1, h2 with
    | 0, h1, h2 =>
      cases h1
      cases h2
      refine ⟨.ref a, rfl, .inl ⟨Sc.self, ?_⟩⟩
      have : (("self" : Str) == x) = false := by simpa using hx.symm
      simp [List.lookup_cons, this]
    | 1, h1, h2 =>
      cases h1
      cases h2
      exact ⟨u1, ru, .inl ⟨Sc.arg, by simp⟩⟩
    | i + 2, h1, h2 => simp at h1
  · obtain ⟨_, e⟩ := hclk z c h
    subst e
    exact ⟨_, _, hk _ _ (e0.bs _ _ hbc).1, rfl⟩
  · obtain ⟨_, e⟩ := hclk z c h
    subst e
    exact (e0.bs _ _ hbc).2
/-- THE RULE: the def itself -/
theorem fn_sup {CX : CXT} {k : Nat} {p0 p1 p2 p3 p4 p5 p6 p7 p8 p9 : Pos} {pl : Sem Bool}
    (lk : K.lookup f = some ⟨oc, od, .func (PySem.W.ksFn name qual params [.Expr (.Call (.Attribute (.Call (.Name "super" p0) [] [] p1) "__init__" p2) [.Name x p3] [] p4) p5, .Assign [.Attribute (.Name "self" p6) x p7] (.Name x p8) p9] scope dV kV doc pm an (.ref cda) ct cc), osl⟩)
    (hcd : PySem.W.codeIn K (.ref cda) qual = true) (S : SupC P K C cc cda x) (Sc : SupS scope x) (hx : x ≠ "self") (hx2 : x ≠ "__class__") (hdb : (x == ("__debug__" : Str)) = false) (hdc : (x == ("__classdict__" : Str)) = false)
    (hp : (params.posonlyargs ++ params.args).head? = some ar) (har : ar.arg = "self")
    (hev : ∀ env : Env, eval (.Call (.Attribute (.Call (.Name "super" p0) [] [] p1) "__init__" p2) [.Name x p3] [] p4) env = (do
      let ov ← attributeBase (.Call (.Name "super" p0) [] [] p1) "__init__" env (eval (.Call (.Name "super" p0) [] [] p1) env)
      standAt p2.atName
      let (f, first) ← holding [ov] (getMethod ov "__init__" pl)
      callWith p4 f first (backTo p4 (starEach [.Name x p3] env)) []))
    (hsw : ∀ env : Env, swapsWith (.Call (.Attribute (.Call (.Name "super" p0) [] [] p1) "__init__" p2) [.Name x p3] [] p4) none p5.line env = pure false) (hsw2 : ∀ env : Env, swapsWith (.Name x p8) (some (.Attribute (.Name "self" p6) x p7)) p9.line env = pure false) :
    FnOk P w K mg base CX (k + 1) f (PySem.W.ksFn name qual params [.Expr (.Call (.Attribute (.Call (.Name "super" p0) [] [] p1) "__init__" p2) [.Name x p3] [] p4) p5, .Assign [.Attribute (.Name "self" p6) x p7] (.Name x p8) p9] scope dV kV doc pm an (.ref cda) ct cc) ["self", x] (spSup C x) := by
  refine ⟨fun vs H Q E ⟨a, y, e, _⟩ => by rw [e]; rfl, fun A outer s H args us vs Q E hr e0 hb r hsp => ?_⟩
  obtain ⟨a, y, rfl, ha, hq⟩ := hsp
  obtain ⟨u1, rfl, ru1⟩ : ∃ u1, us = [.ref a, u1] ∧ RelV y u1 := by
    cases r with
    | cons r0 r1 =>
      cases r1 with
      | cons r1 r2 =>
        cases r2
        cases r0
        exact ⟨_, rfl, r1⟩
  have KX : K.In s.heap := e0.mod.kin.keeps fun b o e => (e0.bs b o e).1
  have lim : s.heap.NoLimit := e0.mod.nolimit.keeps fun b o e => (e0.bs b o e).1
  refine ks_codeAny_call_defAt (binds := [("self", .ref a), (x, u1)]) hr.depth (KX _ _ lk) rfl lim (PySem.W.codeRec_of KX hcd) rfl hb Sc.noc (fun z hz => ?_) (fun h0 hns hk => ?_) Sc.co Sc.gen Sc.kind
  · simp only [List.mem_cons, List.not_mem_nil, or_false] at hz
    rcases hz with rfl | rfl
    · exact Sc.self
    · exact Sc.arg
  have I := inv_sup (CX := CX) (E := E) (tk := s.toks + 2) (qual := qual) (f := f) S Sc hx hx2 hr.hd e0 hns hk ru1
  obtain ⟨t0, ho⟩ := exo_at I.hok ha
  have KX0 : K.In h0 := I.kIn
  obtain ⟨ccl, cdd, vs, ccs, file, tf, hcode, hvs, hfile⟩ := S.code
  obtain ⟨cl, cld, csl, hcell⟩ := S.cell
  obtain ⟨nm, q, N, bs, bm, sn, sub, ab, col, dd, k0, k1, k2, k3, k5, hC, hbm⟩ := S.oex.cls
  obtain ⟨mb, hmb, hmb2⟩ := e0.mod.blt
  have hst : base.StaysIn h0 := fun b o e => hk b o (e0.bs b o e).1
  obtain ⟨hh, g, d, tk, os⟩ := s
  have hcl : PySem.W.clsIn K C = some { name := nm, bases := bs, mro := .ref C :: bm, ns := N, qualname := q, hasDict := true, slotNames := sn, subclasses := sub, abstract := ab, collection := col, hasDel := false } := by unfold PySem.W.clsIn; rw [hC] <;> rfl
  have hal := S.along
  unfold PySem.W.ks_superIn at hal
  rw [hcl, Option.bind_some] at hal
  have J0 : PySem.W.InstAt h0 a _ C none := ⟨ho, rfl, rfl, trivial⟩
  have hin : interactive (PySem.W.ksEnv qual scope hh.objs.size f (.ref cda) cc) = false := by
    unfold interactive
    simp [Sc.kind]
  have hlx : ([("self", Value.ref a), (x, u1)] : List (Str × Value)).reverse.lookup x = some u1 := by simp
  have hls : ([("self", Value.ref a), (x, u1)] : List (Str × Value)).reverse.lookup ("self" : Str) = some (Value.ref a) := by
    have e : (("self" : Str) == x) = false := by simpa using hx.symm
    simp [List.lookup_cons, e]
  refine ks_wpAt_execs_cons (ks_wpAt_Expr_any (ks_wpAt_MethodCall (pl := pl) (ks_wpAt_super_base (ar := ar) Sc.sup Sc.cls (by decide) rfl (KX0 _ _ lk) rfl hp rfl (KX0 _ _ hcode) rfl hvs hfile S.top ?_) (hev _)) hin (hsw _))
  refine PySem.W.ks_loadName_global Sc.kind Sc.sup (PySem.Calls.loadGlobal_builtin (e0.mod.glob.keeps hst) (PySem.W.mg_none_of e0.mod.kin e0.mod.glob S.sup) (hmb.keeps hst) ((hmb2 _ (by decide +kernel)).trans (show bootBuiltins "super" = some (.type "super") by decide +kernel)) ⟨rfl, ?_⟩)
  refine wpAny_loadName_free Sc.kind Sc.cls rfl ⟨_, KX0 _ _ hcell, rfl⟩ ?_
  rw [har]
  refine wpAny_loadName_local Sc.kind Sc.self hns hls ?_
  refine ks_wpAny_isType_cls (KX0 _ _ hC) rfl ⟨rfl, ?_⟩
  refine ks_wpAny_call_super (KX0 _ _ hC) rfl ho rfl (fun c e => by cases e) (PySem.W.looks_mroIn KX0 S.sub) (fun h1 e1 kk1 => ?_)
  have KX1 : K.In h1 := KX0.keeps kk1
  have J1 : PySem.W.InstAt h1 a _ C none := ⟨kk1 _ _ ho, rfl, rfl, trivial⟩
  refine PySem.W.kxs_getMethod PySem.W.kxs_ValueError e1 (PySem.W.looks_opaque KX1 S.opq) (l₀ := .ref C :: bm) (fun A Q E s k q => wpAny_bind ((PySem.W.looks_clsIn KX1 hcl) A _ E s k (wpAny_pure q))) rfl KX1 hal (J1.type.andThen (PySem.W.looks_subIn KX1 S.val)) (PySem.W.ks_ne KX1 J1 hcl) (by decide) ?_
  have kk2 : ∀ b o, h0.get? b = some o → (h1.push (PySem.W.kxs_mw "ValueError.__init__" a)).get? b = some o := fun b o e => Heap.get?_push_of_some _ (kk1 b o e)
  refine PySem.W.kxs_callWith (i := "ValueError.__init__") (x := a) rfl (PySem.Calls.evalArgs_plain ?_)
  refine args_cons (e := .Name x p3) (env := PySem.W.ksEnv qual scope hh.objs.size f (.ref cda) cc) (rest := []) ?_
  refine ESX.ldL (env := PySem.W.ksEnv qual scope hh.objs.size f (.ref cda) cc) (hns.keeps kk2) hlx ?_ Sc.kind Sc.arg hdb
  refine args_nil ⟨Heap.get?_push_size _ rfl, ?_⟩
  refine callMw S.oex (KX0.keeps kk2) (Heap.get?_push_size _ rfl) (kk2 _ _ ho) (by show 1 ≤ sizeLine; decide) fun h3 t1 k3 hx3 => ?_
  have I3' := I.write (t' := tk + 2 + 1) (x := a) (e := a) (o := exo a C none) (h' := h3) (by rw [ha]; trivial) (.inl rfl) (fun b o hb e => k3 b o hb (kk2 b o e)) ⟨_, hx3⟩ (exo_ok hx3)
  have eH : upd H a (exo a C none) = H := by
    funext b
    unfold upd
    split
    · rename_i z
      rw [z, ha]
    · rfl
  rw [eH] at I3'
  refine ks_wpAt_execs_cons (wpAt_of_wpAny ?_)
  have hp2 := (ps_ost (pe_var (X := cxS CX P w K mg base x qual scope f cda cc A outer ⟨hh, g, d, tk, os⟩ H E) (i := 0) rfl (.inl Sc.self) (by decide) (by decide)) (pe_var (i := 1) rfl (.inl Sc.arg) hdb hdc) (hsw2 _)).run [] _ _ H { nx := fun _ H' => Q .non H', rt := fun _ _ => False, bk := fun _ _ => False, ct := fun _ _ => False } I3' ⟨y, rfl, .ref a, rfl, a, C, rfl, S.oex, S.noa, .inl ⟨ha, fun dx h1 h2 => hq dx h1 h2⟩⟩
  refine wpAny_mono hp2 (fun fl s4 h4 => ?_) fun e s4 h4 => h4
  cases fl with
  | next =>
    obtain ⟨σ4, H4, J4, q4⟩ := h4
    exact wpAt_of_wpAny (wpAny_execs_nil ⟨.non, H4, J4.os, J4.bare, J4.base, J4.hok, rfl, q4⟩)
  | brk =>
    obtain ⟨_, _, _, z⟩ := h4
    exact z.elim
  | cont =>
    obtain ⟨_, _, _, z⟩ := h4
    exact z.elim
  | ret u =>
    obtain ⟨_, _, _, _, _, z⟩ := h4
    exact z.elim
end
end Dt
set_option Elab.async false
set_option linter.all false
set_option maxRecDepth 100000
set_option maxHeartbeats 4000000
namespace Dt
open PySem PySem.Spec PyProof.Rows L2
theorem FinX.up {K : PySem.W.Frag} {P P' : Hp} {Ξ : XP} {c : Value} {d : Option Addr} {H : Hp} (e : Ex P P') (h : FinX K P' Ξ c d H) : FinX K P Ξ c d H := by
  obtain ⟨C, dd, fs, ds, M', P2, a, b, c, d, f, g, i⟩ := h
  exact ⟨C, dd, fs, ds, M', P2, a, b, c, d, f, e.trans g, i⟩
theorem tk_up {X : Cx} {P P' : Hp} {Ξ : XP} (e : Ex P P') (t : Takes X (WXP X P Ξ)) : Takes X (WXP X P' Ξ) := t.imp fun _ _ _ _ ⟨a, b⟩ => ⟨a, b.up e⟩
def W1x (X : Cx) (Γ : Sl) (M : Mem) (st : Stmt) (Ψ : Po) (Ξ : XP) : Prop := ∀ P σ H, SOk X.K Γ P σ → MOk X.K M P H → Takes X (WXP X P Ξ) → wpS X st (Ψ.ends X.K P) σ H
def WSx (X : Cx) (Γ : Sl) (M : Mem) (sts : List Stmt) (Ψ : Po) (Ξ : XP) : Prop := ∀ P σ H, SOk X.K Γ P σ → MOk X.K M P H → Takes X (WXP X P Ξ) → wpSs X sts (Ψ.ends X.K P) σ H
abbrev DSx := List D → Mem → VP → XP → Prop
def spOfX (K : PySem.W.Frag) (S : DSx) : Sp := fun vs H Q E => ∃ P M ds Φ Ξ, IsDs K P vs ds ∧ MOk K M P H ∧ S ds M Φ Ξ ∧ (∀ v H', Fin K P Φ v H' → Q v H') ∧ ∀ c d H', FinX K P Ξ c d H' → E c d H'
section
variable {P : Program} {w : World} {K : PySem.W.Frag} {mg : Str → Option Value} {base : Heap} {x qual : Str} {params : Arguments} {body : List Stmt} {scope : Scope} {dvs : List V} {kws : List (Str × V)} {f : Addr} {fd : FuncData}
/-- THE RULE for a def that may raise -/
theorem fn_dataX {N ps : List Str} {k : Nat} {S : DSx} (F : FunD K x qual params body scope dvs kws f fd) (Sc : FnScope N ps scope) (len : ∀ ds M Φ Ξ, S ds M Φ Ξ → ds.length = ps.length)
    (hbody : ∀ (cdv : Value) (A : Around) (outer : List Env) (s : Shared) (H : Hp) (E : XK) (ds : List D) (M : Mem) (Φ : VP) (Ξ : XP), Room k (A.deeper (envOfC qual scope s.heap.objs.size f cdv)) → S ds M Φ Ξ →
      WSx (cxOf (L2.CX P w) P w K mg base N qual scope f cdv A outer s H E) (startD N.length ds) M body { nx := fun _ M' => Φ .non M', rt := Φ } Ξ) : FnOk P w K mg base (L2.CX P w) (k + 1) f fd ps (spOfX K S) := by
  refine F.ok Sc (fun vs H Q E h => ?_) (fun cdv A outer s H vs Q E hr h => ?_)
  · obtain ⟨P1, M, ds, Φ, Ξ, i, m, hs, _⟩ := h
    rw [i.1]
    exact len _ _ _ _ hs
  · obtain ⟨P1, M, ds, Φ, Ξ, i, m, hs, hq, hx⟩ := h
    refine ⟨_, pss_wp, ?_⟩
    have tk : Takes (cxOf (L2.CX P w) P w K mg base N qual scope f cdv A outer s H E) (fun cls d _ H => E cls d H) := takes_of rfl rfl rfl rfl
    refine (hbody cdv A outer s H E ds M Φ Ξ hr hs P1 (L2.start N vs) H (sok_start i) m (tk.imp fun _ _ _ _ z => hx _ _ _ z.2)).mono ⟨fun σ' H' ⟨Γ', M', P', q, e, _, m'⟩ => hq _ _ ⟨.non, M', P', q, e, m', .non⟩, fun v H' z => hq v H' z, fun _ _ ⟨_, _, _, z, _⟩ => z.elim, fun _ _ ⟨_, _, _, z, _⟩ => z.elim⟩
end
def HasMkX (P : Program) (w : World) (K : PySem.W.Frag) (mg : Str → Option Value) (base : Heap) (k : Nat) (C : Addr) (x : Str) (ds : List D) (S : DSx) : Prop :=
  ∃ f fd ps us vs, FnOk P w K mg base (L2.CX P w) k f fd ps (spOfX K S) ∧ Mk K C f ∧ mg x = some (.ref C) ∧ Binds K fd ps us ∧ Vals vs us ∧ ∀ P, IsDs K P vs ds
/-- an own error's class: x its one attribute -/
def HasEx (P : Program) (w : World) (K : PySem.W.Frag) (mg : Str → Option Value) (base : Heap) (k : Nat) (C : Addr) (n x : Str) : Prop :=
  ∃ fI fd ps, OexC K C ∧ PySem.W.findIn K (.ref C) "__init__" = some (some (.ref fI)) ∧ PySem.W.typeIn K (.ref fI) = some (.type "function") ∧ FnOk P w K mg base CX0 k fI fd ps (spSup C x) ∧ Binds K fd ps [] ∧ mg n = some (.ref C)
section
variable {X : Cx} {Γ : Sl} {M : Mem} {Φ : VP} {Ψ : Po} {Ξ : XP} {e a b c o : Expr} {es : List Expr} {pos p pos' apos : Pos} {k : Nat} {x f : Str} {S : DSx} {st : Stmt} {sts : List Stmt}
theorem w1x_of (h : W1 X Γ M st Ψ) : W1x X Γ M st Ψ Ξ := fun P σ H s m _ => h P σ H s m
theorem wsx_of (h : WS X Γ M sts Ψ) : WSx X Γ M sts Ψ Ξ := fun P σ H s m _ => h P σ H s m
theorem wx_nil (h : Ψ.nx Γ M) : WSx X Γ M [] Ψ Ξ := wsx_of (ws_nil h)
theorem wx_cons (h : W1x X Γ M st { Ψ with nx := fun Γ' M' => WSx X Γ' M' sts Ψ Ξ } Ξ) : WSx X Γ M (st :: sts) Ψ Ξ := fun P σ H s m tk =>
  wpSs_of (pss_cons ps_wp pss_wp) ((h P σ H s m tk).mono ⟨fun σ' H' ⟨Γ', M', P', q, e, s', m'⟩ => (q P' σ' H' s' m' (tk_up e tk)).mono (Ψ.up e), fun _ _ z => z, fun _ _ z => z, fun _ _ z => z⟩)
/-- a statement that raises nothing, then what may raise -/
theorem wx_1 (h : W1 X Γ M st { Ψ with nx := fun Γ' M' => WSx X Γ' M' sts Ψ Ξ }) : WSx X Γ M (st :: sts) Ψ Ξ := wx_cons (w1x_of h)
theorem WSx.weak {Γ' : Sl} {M' : Mem} (h : WSx X Γ' M' sts Ψ Ξ) (hl : Γ'.length = Γ.length) (hi : ∀ (i : Nat) (d : D), Γ'[i]? = some (some d) → Γ[i]? = some (some d)) (hm : M'.Sublist M) : WSx X Γ M sts Ψ Ξ := fun P σ H s m tk => h P σ H (s.weak hl hi) (m.sub hm) tk
theorem wx_if {A E sts : List Stmt} (h : WT X Γ M c fun k M1 => (k = true → WSx X Γ M1 A { Ψ with nx := fun Γ' M' => WSx X Γ' M' sts Ψ Ξ } Ξ) ∧ (k = false → WSx X Γ M1 E { Ψ with nx := fun Γ' M' => WSx X Γ' M' sts Ψ Ξ } Ξ)) : WSx X Γ M (.If c A E pos :: sts) Ψ Ξ := wx_cons fun P σ H s m tk =>
  wpS_of (ps_if pt_wp pss_wp pss_wp) ((h P σ H s m).mono fun k H1 ⟨M1, P1, q, e1, m1⟩ => by
    cases k with
    | true => exact iteT ((q.1 rfl P1 σ H1 (s.mono e1) m1 (tk_up e1 tk)).mono (Po.up _ e1))
    | false => exact iteF ((q.2 rfl P1 σ H1 (s.mono e1) m1 (tk_up e1 tk)).mono (Po.up _ e1)))
theorem wx_expr (h : WEx X Γ M e (fun _ M1 => WSx X Γ M1 sts Ψ Ξ) Ξ) (hs : swapsWith e none pos.line X.env = pure false := by rfl) : WSx X Γ M (.Expr e pos :: sts) Ψ Ξ := wx_cons fun P σ H s m tk =>
  wpS_of (ps_expr pe_wp hs) ((h P σ H s m tk).mono fun v H1 ⟨d, M1, P1, q, e1, m1, i1⟩ => ⟨Γ, M1, P1, q, e1, s.mono e1, m1⟩)
theorem del_upd {H : Hp} {a dx : Addr} {o1 o2 o3 o4 : HO} (ha : H a = none) (hne : dx ≠ a) : upd (del (upd (upd (upd H a o1) dx o2) a o3) a) dx o4 = upd H dx o4 := by
  funext b
  by_cases h1 : b = dx
  · subst h1
    rw [upd_same, upd_same]
  · rw [upd_ne h1, upd_ne h1]
    by_cases h2 : b = a
    · subst h2
      rw [del_same, ha]
    · rw [del_ne h2, upd_ne h2, upd_ne h1, upd_ne h2]
theorem wx_raise {C : Addr} {n : Str} (F : HasEx X.prog X.w X.K X.mg X.base k C n f) (hr : Room (k + 1) X.A) (h : WA X Γ M [e] fun ds M1 => ∃ d, ds = [d] ∧ Ξ C [(f, d)] M1) (hc : X.calm = true := by rfl) (hg : Gl X n := by rfl)
    (hdb : (n == ("__debug__" : Str)) = false := by decide) (he : starEach [e] X.env = (false, eval e X.env) :: starEach [] X.env := by rfl) : WSx X Γ M (.Raise (some (.Call (.Name n p) [e] [] pos')) none pos :: sts) Ψ Ξ := wx_cons fun P σ H s m tk => by
  obtain ⟨fI, fd, ps, T, iC, tI, F1, hb, hm⟩ := F
  intro pins sh I
  refine (ps_raise hc tk (pmk_oex T iC tI F1 hr hb .nil pass0 hg hm pa_wp hdb he (by rfl))).run pins sh σ H _ I ?_
  refine (h P σ H s m).mono fun vs H1 ⟨ds, M1, P1, ⟨d, ed, q⟩, e1, m1, i1⟩ => ?_
  subst ed
  obtain ⟨v, r, rfl, hv, hr2⟩ := i1.uncons
  obtain rfl := hr2.unnil
  refine ⟨(show 1 ≤ 1000 by decide), fun a ha => ⟨a, v, rfl, upd_same, fun dx hdx hne => ⟨rfl, dx, [(f, v)], upd_same, ?_, ?_, ?_⟩⟩⟩
  · rw [upd_ne hne, upd_same]
  · rw [upd_ne hne] at hdx
    exact hdx
  · rw [upd_ne hne] at hdx
    rw [del_upd ha hne]
    obtain ⟨m2, e2⟩ := m1.push (o := .xd [(f, v)]) hdx
    exact ⟨I.len, C, dx, [(f, v)], [(f, d)], M1, _, rfl, rfl, upd_same, .cons (hv.mono e2) .nil, q, e1.trans e2, m2⟩
theorem pass_x {P : Hp} (tk : Takes X (WXP X P Ξ)) : Passes (L2.CX X.prog X.w) X (FinX X.K P Ξ) := fun _ σ _ _ e s' I c => tk e s' (XE.of_call I (fun cls d H' h => ⟨I.len, h⟩) c)
/-- C(e, ..): the half-made object is let go if it raises -/
theorem wxm {C : Addr} {dfs : List D} (F : HasMkX X.prog X.w X.K X.mg X.base k C x dfs S) (hr : Room (k + 1) X.A)
    (h : WA X Γ M (e :: es) fun ds M1 => ∀ l, S (.adr l :: (ds ++ dfs)) ((l, .ins C []) :: M1) (fun r M2 => r = .non ∧ ∃ fs M3, M2 = (l, .ins C fs) :: M3 ∧ Φ (.obj C fs) M3) (fun C' as M2 => ∃ o M3, M2 = (l, o) :: M3 ∧ Ξ C' as M3))
    (hg : Gl X x := by rfl) (hdb : (x == ("__debug__" : Str)) = false := by decide) (he : starEach (e :: es) X.env = (false, eval e X.env) :: starEach es X.env := by rfl) (hpl : (backTo pos (starEach es X.env)).any (·.1) = false := by rfl) : WEx X Γ M (.Call (.Name x p) (e :: es) [] pos) Φ Ξ := fun P σ H s m tk => by
  obtain ⟨f, fd, ps, us, vs0, F1, mk, hm, hb, hv0, hd0⟩ := F
  refine wpT_of (pe_make mk F1 hr hg hm hb hv0 (pass_x tk) pa_wp hdb he hpl) ((h P σ H s m).mono fun vs H1 ⟨ds, M1, P1, q, e1, m1, i1⟩ => ?_)
  intro l dx hl hdx hne
  obtain ⟨m2, e2⟩ := m1.push (o := .own l) hdx
  have hl2 : upd H1 dx (.own l) l = none := by
    rw [upd_ne (fun z => hne z.symm)]
    exact hl
  have m3 : MOk X.K ((l, .ins C []) :: M1) (upd P1 dx (.own l)) (upd (upd H1 dx (.own l)) l (.ins C dx [])) := m2.own hl2 ⟨dx, [], upd_same, .nil⟩
  refine ⟨_, _, _, _, _, .cons .adr ((i1.mono e2).append (hd0 _)), m3, q l, fun v H' z => ?_, fun c' d' H' z => ?_⟩
  · obtain ⟨d4, M4, P4, ⟨z1, fs, M5, z2, z3⟩, z4, z5, z6⟩ := z
    subst z1 z2
    cases z6
    obtain ⟨P6, e6, m6, i6⟩ := frz_ins z5
    exact ⟨rfl, _, M5, P6, z3, ((e1.trans e2).trans z4).trans e6, m6, i6⟩
  · obtain ⟨C', dd, fs, as, M4, P4, z1, z2, z3, z4, ⟨o, M5, z5, z6⟩, z7, z8⟩ := z
    subst z5
    exact ⟨C', dd, fs, as, M5, P4, z1, z2, z3, z4, z6, (e1.trans e2).trans z7, z8.tail⟩
end
/-- what the class of a caught error must say -/
structure XcC (K : PySem.W.Frag) (C : Addr) (f : Str) : Prop where
  xf : XfC K C
  no : PySem.W.findIn K (.ref C) f = some none
  own : PySem.W.findIn K (.ref C) "__class__" = some (some (.builtin "object.__class__"))
  get : PySem.W.specialIn K (.builtin "object.__class__") "__get__" = some (some (.builtin "getset_descriptor.__get__"))
  tak : PySem.W.takesIn K (.builtin "object.__class__") = some true
  mro : PySem.W.mroIn K C (.type "object") = some true
def rIsX (K : PySem.W.Frag) (C a dd : Addr) : List V → Hp → VK → Prop := fun xs H Q => ∃ (c : V) (cv : Value) (b : Bool) (fs : List (Str × V)), xs = [.ref a, c] ∧ (∀ u, RelV c u → u = cv) ∧ PySem.W.kitOne K (.ref C) cv = some b ∧ H dd = some (.xd fs) ∧ Q (.bl b) H
theorem call_isX {X : Cx} {a C dd : Addr} {oe : Obj} {f : Str} {pn : List (Addr × Obj)} (T : XcC X.K C f) (hz : Zc (.ref C) (some dd) oe) (hf : ∃ vs, oe.data = .fields vs) : CallR (X.suite a ((a, oe) :: pn)) (.builtin "isinstance") (rIsX X.K C a dd) := by
  intro pins s σ H xs us Q I r h
  obtain ⟨c, cv, b, fs, rfl, hcv, e, hd, q⟩ := h
  cases r with
  | cons rx rr =>
    cases rr with
    | cons rt rr =>
      cases rr
      cases rx
      have ec := hcv _ rt
      subst ec
      obtain ⟨hget, _⟩ := I.pin (a, oe) (List.mem_append.mpr (.inl List.mem_cons_self))
      obtain ⟨vs, hv⟩ := hf
      obtain ⟨mA, hns, hr⟩ : ObjOk X.prog X.w H s.heap dd (.xd fs) := I.hok dd _ hd
      obtain ⟨od, ho, hl⟩ := lookIn_ns hns
      have J : PySem.W.InstAt s.heap a oe C (some od) := ⟨hget, hz.1, by unfold PySem.W.notCls; rw [hv] <;> rfl, by rw [hz.2]; exact ho⟩
      have hcl : (PySem.W.clsIn X.K C).isSome = true := by
        obtain ⟨cd, hc, _⟩ := PySem.W.any_some T.xf.hdC
        rw [hc]
        rfl
      exact PySem.W.kia_one (PySem.W.kitx_exc hcl T.xf.ga T.xf.gg T.xf.exC T.own T.get T.tak T.mro) I.kIn J e (fun z => nomatch z) fun tk => ⟨.bl b, H, I.kept (t' := tk) fun _ _ z => z, rfl, q⟩
end Dt
set_option Elab.async false
set_option linter.all false
set_option maxRecDepth 100000
set_option maxHeartbeats 4000000
set_option Elab.async false
set_option linter.all false
set_option maxRecDepth 100000
set_option maxHeartbeats 4000000
set_option Elab.async false
set_option linter.all false
set_option maxRecDepth 100000
set_option maxHeartbeats 4000000
namespace Dt
open PySem PySem.Spec PyProof.Rows L2
section
variable {X : Cx} {M : Mem} {Φ : VP}
theorem call_isiS : CallR X (.builtin "isinstance") (fun xs H Q => ∃ (x : V) (tp : Addr) (cs : List V) (t : Value) (us : List Value) (b : Bool), xs = [x, .ref tp] ∧ SqT X.K H tp cs ∧ Paired ClsV cs us ∧ TyX X.K H x t ∧ PySem.W.kitAny X.K t us = some b ∧ Q (.bl b) H) := by
  intro pins s σ H xs us Q I r h
  obtain ⟨x, tp, cs, t, ws, b, rfl, hT, k, ty, e, q⟩ := h
  obtain ⟨u1, u2, rfl, r1, r2⟩ := vals2 r
  cases (show u2 = Value.ref tp from r2)
  obtain ⟨Pp, Z, p, hx⟩ := kit_of I r1 ty
  obtain ⟨its, rv, ⟨o, h1, h2, n, h3⟩, _⟩ := I.tuple hT
  have e3 := ClsV.all k rv
  subst e3
  obtain ⟨oc, od, oda, osl⟩ := o
  dsimp only at h2 h3
  subst h2 h3
  exact PySem.W.kia_tup Z I.kIn p h1 e hx fun tk => ⟨.bl b, H, I.tok tk, rfl, q⟩
theorem un_ty2 {K : PySem.W.Frag} {P : Hp} {v : V} {a b : String} (h : IsD K P v (.tup [.ty a, .ty b])) : ∃ tp, v = .ref tp ∧ SqT K P tp [.ty a, .ty b] := by
  cases h with
  | @tup l xs _ hs hl hi =>
    obtain ⟨u1, u2, rfl, h1, h2⟩ := IsDs.un2 (K := K) (P := P) ⟨hl, hi⟩
    cases h1
    cases h2
    exact ⟨l, rfl, hs⟩
theorem kitAny2 {K : PySem.W.Frag} {t c d : Value} {ka kb : Bool} (h1 : PySem.W.kitOne K t c = some ka) (h2 : PySem.W.kitOne K t d = some kb) : PySem.W.kitAny K t [c, d] = some (ka || kb) := by
  refine kitAny_cons h1 (fun e => ?_) fun e => by rw [e]; rfl
  subst e
  refine kitAny_cons h2 (fun e => ?_) fun e => by rw [e]; rfl
  subst e
  rfl
theorem cd_isiTT {d : D} {t a b : String} {ka kb : Bool} (ht : tyD d = some t) (h1 : kitB t a = some ka) (h2 : kitB t b = some kb) (q : Φ (.bl (ka || kb)) M) : CaD X (.builtin "isinstance") [d, .tup [.ty a, .ty b]] M Φ := cd_of call_isiS fun P H vs m h => by
  obtain ⟨v, v2, rfl, hv, hv2⟩ := h.un2
  obtain ⟨tp, rfl, hT⟩ := un_ty2 hv2
  exact ⟨v, tp, _, _, [.type a, .type b], _, rfl, Same.tupS m.ex hT, .cons (.ty a) (.cons (.ty b) .nil), tyX_of m hv ht, kitAny2 (kit_ty h1) (kit_ty h2), .one q m .bl⟩
theorem cd_isiOT {d : D} {C : Addr} {fs : List (Str × D)} {a b : String} {ka kb : Bool} (ho : ObjD M d C fs) (hI : IsF X.K C) (h1 : PySem.W.kitOne X.K (.ref C) (.type a) = some ka) (h2 : PySem.W.kitOne X.K (.ref C) (.type b) = some kb) (q : Φ (.bl (ka || kb)) M) : CaD X (.builtin "isinstance") [d, .tup [.ty a, .ty b]] M Φ := cd_of call_isiS fun P H vs m h => by
  obtain ⟨v, v2, rfl, hv, hv2⟩ := h.un2
  obtain ⟨tp, rfl, hT⟩ := un_ty2 hv2
  exact ⟨v, tp, _, _, [.type a, .type b], _, rfl, Same.tupS m.ex hT, .cons (.ty a) (.cons (.ty b) .nil), hI.ty ho m hv, kitAny2 h1 h2, .one q m .bl⟩
end
end Dt
set_option Elab.async false
set_option linter.all false
set_option maxRecDepth 100000
set_option maxHeartbeats 4000000
namespace Dt
open PySem PySem.Spec PyProof.Rows L2
theorem wx_wk {X : Cx} {Γ Γ' : Sl} {M M' : Mem} {sts : List Stmt} {Ψ : Po} {Ξ : XP} (w : Wk Γ' Γ) (hm : M'.Sublist M) (h : WSx X Γ' M' sts Ψ Ξ) : WSx X Γ M sts Ψ Ξ := h.weak w.1 w.2 hm
theorem take_1 {α : Type} {L : List α} {i : Nat} {z : α} (h : L[i]? = some z) : L.take (i + 1) = L.take i ++ [z] := by
  obtain ⟨hi, e⟩ := List.getElem?_eq_some_iff.mp h
  rw [List.take_succ_eq_append_getElem hi, e]
end Dt
set_option Elab.async false
set_option linter.all false
set_option maxRecDepth 100000
set_option maxHeartbeats 4000000
namespace Dt
open PySem PySem.Spec PyProof.Rows L2
section
variable {X : Cx} {Γ : Sl} {M : Mem} {Φ : VP} {Ξ : XP} {e : Expr} {pos p : Pos} {k : Nat} {x : Str} {S : DSx}
theorem we_x (h : WEx X Γ M e Φ fun _ _ _ => False) : WE X Γ M e Φ := fun P σ H s m => h P σ H s m fun u s' ⟨_, _, _, _, _, _, _, _, _, _, _, _, _, _, _, _, _, _, _, _, _, _, _, _, _, _, _, z, _⟩ => z.elim
end
end Dt
set_option Elab.async false
set_option linter.all false
set_option maxRecDepth 100000
set_option maxHeartbeats 4000000
namespace Dt
open PySem PySem.Spec PyProof.Rows L2
theorem oexB_ok {K : Fg} {C : Addr} (h : oexB K C = true) : OexC K C := by
  unfold oexB at h
  obtain ⟨h1, h⟩ := Bool.and_eq_true_iff.mp h
  obtain ⟨h2, h⟩ := Bool.and_eq_true_iff.mp h
  obtain ⟨h3, h⟩ := Bool.and_eq_true_iff.mp h
  obtain ⟨h4, h5⟩ := Bool.and_eq_true_iff.mp h
  refine ⟨?_, He.eqO_ok h2, of_decide_eq_true h3, of_decide_eq_true h4, h5⟩
  split at h1
  · rename_i c dd cd sl hl
    split at h1
    · rename_i C' bm k0 k1 k2 k3 n k5 hm hs
      obtain ⟨e1, h1⟩ := Bool.and_eq_true_iff.mp h1
      obtain ⟨e2, h1⟩ := Bool.and_eq_true_iff.mp h1
      obtain ⟨e3, h1⟩ := Bool.and_eq_true_iff.mp h1
      obtain ⟨e4, h1⟩ := Bool.and_eq_true_iff.mp h1
      obtain ⟨e5, e6⟩ := Bool.and_eq_true_iff.mp h1
      have e1 := of_decide_eq_true e1
      have e2 := of_decide_eq_true e2
      have e3 := of_decide_eq_true e3
      have e7 : cd.hasDel = false := by simpa using e5
      obtain ⟨c1, c2, c3, c4, c5, c6, c7, c8, c9, c10, c11⟩ := cd
      dsimp only at hm e4 e7
      subst hm e1 e2 e3 e4 e7
      have es : sl = #[k0, k1, k2, k3, some (.builtin "ValueError.__new__"), k5] := by
        have z := congrArg List.toArray hs
        rw [Array.toArray_toList] at z
        exact z
      subst es
      exact ⟨c1, c5, c4, c2, bm, c7, c8, c9, c10, dd, k0, k1, k2, k3, k5, hl, e6⟩
    · cases h1
  · cases h1
theorem hasEx {P : Program} {w : World} {K : Fg} {h base : Heap} {mg : Str → Option Value} {k : Nat} {n x : Str} {d : Df} {p0 p1 p2 p3 p4 p5 p6 p7 p8 p9 : Pos} {pl : Sem Bool} {ar : Arg} (X : K.In h) (G : h.Ns mainGlobals mg) (hl : d.loc K = He.ma K (He.ga K n) "__init__") (h1 : seeX K (d.loc K) = d.toldX) (h2 : supB P.main.file K (He.ga K n) x d.qu = true)
    (g2 : (He.Fa.glo n).ok K = true) (ht : (P.main.scope.names.lookup ("super" : Str)).isSome = false)
    (hbo : d.bo = [.Expr (.Call (.Attribute (.Call (.Name "super" p0) [] [] p1) "__init__" p2) [.Name x p3] [] p4) p5, .Assign [.Attribute (.Name "self" p6) x p7] (.Name x p8) p9]) (Sc : SupS d.sc x) (hx : x ≠ "self") (hx2 : x ≠ "__class__") (hdb : (x == ("__debug__" : Str)) = false) (hdc : (x == ("__classdict__" : Str)) = false)
    (hp : (d.pa.posonlyargs ++ d.pa.args).head? = some ar) (har : ar.arg = "self")
    (hev : ∀ env : Env, eval (.Call (.Attribute (.Call (.Name "super" p0) [] [] p1) "__init__" p2) [.Name x p3] [] p4) env = (do
      let ov ← attributeBase (.Call (.Name "super" p0) [] [] p1) "__init__" env (eval (.Call (.Name "super" p0) [] [] p1) env)
      standAt p2.atName
      let (f, first) ← holding [ov] (getMethod ov "__init__" pl)
      callWith p4 f first (backTo p4 (starEach [.Name x p3] env)) []))
    (hsw : ∀ env : Env, swapsWith (.Call (.Attribute (.Call (.Name "super" p0) [] [] p1) "__init__" p2) [.Name x p3] [] p4) none p5.line env = pure false) (hsw2 : ∀ env : Env, swapsWith (.Name x p8) (some (.Attribute (.Name "self" p6) x p7)) p9.line env = pure false)
    (hbind : ∀ (kV doc pm : Value) (an : Option Addr) (cdv ct : Value) (cc : Addr) (us : List Value), us.length = 2 → bindArgs (PySem.W.ksFn d.nm d.qu d.pa d.bo d.sc .none kV doc pm an cdv ct cc) ⟨us, []⟩ = pure ((["self", x] : List Str).zip us)) :
    HasEx P w K mg base (k + 1) (He.ga K n) n x := by
  unfold supB at h2
  replace h2 := Bool.and_eq_true_iff.mp h2
  obtain ⟨a1, h2⟩ := h2
  replace h2 := Bool.and_eq_true_iff.mp h2
  obtain ⟨a2, h2⟩ := h2
  replace h2 := Bool.and_eq_true_iff.mp h2
  obtain ⟨a3, h2⟩ := h2
  replace h2 := Bool.and_eq_true_iff.mp h2
  obtain ⟨a4, h2⟩ := h2
  replace h2 := Bool.and_eq_true_iff.mp h2
  obtain ⟨a5, h2⟩ := h2
  replace h2 := Bool.and_eq_true_iff.mp h2
  obtain ⟨a6, h2⟩ := h2
  replace h2 := Bool.and_eq_true_iff.mp h2
  obtain ⟨a7, h2⟩ := h2
  replace h2 := Bool.and_eq_true_iff.mp h2
  obtain ⟨a8, h2⟩ := h2
  replace h2 := Bool.and_eq_true_iff.mp h2
  obtain ⟨a9, h2⟩ := h2
  rw [hl] at h1
  unfold seeX at h1
  split at h2
  · rename_i oc od g osl hk
    rw [hk, Option.bind_some] at h1
    dsimp only at h1
    split at h2
    · rename_i y cc cda hc hcd
      obtain ⟨b1, h2⟩ := Bool.and_eq_true_iff.mp h2
      obtain ⟨b0, h2⟩ := Bool.and_eq_true_iff.mp h2
      obtain ⟨b2, b3⟩ := Bool.and_eq_true_iff.mp h2
      have b9 := of_decide_eq_true b0
      obtain ⟨g1, g2', g3, g4, g5, g6, g7, g8, g9, g10, g11, g12, g13, g14, g15⟩ := g
      dsimp only at hc hcd b9 h1
      subst hc hcd b9
      simp only [Df.toldX, Option.some.injEq, Prod.mk.injEq, List.map_cons, List.map_nil, List.cons.injEq, and_true] at h1
      obtain ⟨r1, r2, r3, r4, r5, r6, r7, r8⟩ := h1
      subst r1 r2 r3 r4 r5 r6 r7 r8
      have cellOk : ∃ cl cld csl, K.lookup cc = some ⟨cl, cld, .cell (some (.ref (He.ga K n))), csl⟩ := by
        split at b2
        · rename_i e1 e2 C' e4 e5
          have z := of_decide_eq_true b2
          subst z
          exact ⟨_, _, _, e5⟩
        · cases b2
      have codeOk : ∃ ccl cdd vs ccs file tf, K.lookup cda = some ⟨ccl, cdd, .fields vs, ccs⟩ ∧ vs[2]? = some (.str file tf) ∧ ((P.main.file : Str) == file) = true := by
        split at b3
        · rename_i e1 e2 vs e4 e5
          split at b3
          · rename_i file tf e6
            exact ⟨_, _, vs, _, file, tf, e5, e6, b3⟩
          · cases b3
        · cases b3
      have S : SupC P K (He.ga K n) cc cda x := ⟨oexB_ok a1, He.eqO_ok a2, of_decide_eq_true a3, of_decide_eq_true a4, He.eqO_ok a5, He.eqO_ok a6, He.eqO_ok a7, cellOk, codeOk, ht⟩
      refine ⟨He.ma K (He.ga K n) "__init__", PySem.W.ksFn d.nm d.qu d.pa d.bo d.sc .none g9 g10 g11 g12 (.ref cda) g14 cc, ["self", x], oexB_ok a1, He.eqO_ok a8, of_decide_eq_true a9, ?_, .all fun us hl => hbind g9 g10 g11 g12 (.ref cda) g14 cc us hl, He.glo_ok X G g2⟩
      rw [hbo] at hk ⊢
      exact fn_sup (k := k) hk b1 S Sc hx hx2 hdb hdc hp har hev hsw hsw2
    · cases h2
  · cases h2
theorem xcB_ok {K : Fg} {C : Addr} {f : Str} (h : xcB K C f = true) : XcC K C f := by
  unfold xcB at h
  obtain ⟨a1, h⟩ := Bool.and_eq_true_iff.mp h
  obtain ⟨a2, h⟩ := Bool.and_eq_true_iff.mp h
  obtain ⟨a3, h⟩ := Bool.and_eq_true_iff.mp h
  obtain ⟨a4, h⟩ := Bool.and_eq_true_iff.mp h
  obtain ⟨a5, a6⟩ := Bool.and_eq_true_iff.mp h
  exact ⟨xfB_ok a1, He.eqO_ok a2, He.eqO_ok a3, He.eqO_ok a4, of_decide_eq_true a5, of_decide_eq_true a6⟩
theorem nilB_ok {K : Fg} {a : Addr} (h : nilB K a = true) (P : Hp) : IsD K P (.ref a) (.tup []) := by
  unfold nilB at h
  split at h
  · rename_i c dd its nn sl hl
    obtain ⟨a1, a2⟩ := Bool.and_eq_true_iff.mp h
    have e := of_decide_eq_true a1
    subst e
    have e2 : its.toList = [] := List.isEmpty_iff.mp a2
    refine .tup (xs := []) (.inr ⟨_, its, nn, hl, rfl, rfl, ?_, ?_⟩) rfl (fun i x d z => by simp at z)
    · rw [← Array.length_toList, e2]
      exact Nat.zero_le _
    · rw [e2]
      exact .nil
  · cases h
section
variable {P : Program} {w : World} {K : Fg} {h base : Heap} {mg : Str → Option Value} {k : Nat} {C : Str} {fd : FuncData} {ps : List Str} {S : DSx} {dvs : List V} {dd : List D}
theorem hasMkX (X : K.In h) (G : h.Ns mainGlobals mg) (b : ∃ ds, Vals dvs ds ∧ Binds K fd ps ds) (hd : ∀ P1 : Hp, IsDs K P1 dvs dd) (g : (He.Fa.mkr C).ok K = true) (g2 : (He.Fa.glo C).ok K = true) (F1 : FnOk P w K mg base (L2.CX P w) k (locM C "__init__" K) fd ps (spOfX K S)) : HasMkX P w K mg base k (He.ga K C) C dd S := by
  obtain ⟨ds, hv, hb⟩ := b
  exact ⟨_, fd, ps, ds, dvs, F1, He.mkr_ok g, He.glo_ok X G g2, hb, hv, hd⟩
end
end Dt
set_option Elab.async false
set_option linter.all false
set_option maxRecDepth 100000
set_option maxHeartbeats 4000000
set_option Elab.async false
set_option linter.all false
set_option maxRecDepth 100000
set_option maxHeartbeats 4000000
set_option Elab.async false
set_option linter.all false
set_option maxRecDepth 100000
set_option maxHeartbeats 4000000
namespace Dt
open PySem PySem.Spec PyProof.Rows L2
section
variable {P : Program} {w : World} {K : PySem.W.Frag} {mg : Str → Option Value} {base : Heap} {k : Nat} {f : Addr} {fd : FuncData} {ps : List Str} {CX : CXT}
theorem fn_or {sp1 sp2 : Sp} (F1 : FnOk P w K mg base CX k f fd ps sp1) (F2 : FnOk P w K mg base CX k f fd ps sp2) : FnOk P w K mg base CX k f fd ps (fun vs H Q E => sp1 vs H Q E ∨ sp2 vs H Q E) :=
  ⟨fun vs H Q E h => h.elim (F1.len vs H Q E) (F2.len vs H Q E), fun A outer s H args us vs Q E hr e hb r h => h.elim (F1.run A outer s H args us vs Q E hr e hb r) (F2.run A outer s H args us vs Q E hr e hb r)⟩
/-- two promises by data -/
theorem fn_orD {S1 S2 S : DS} (F1 : FnOk P w K mg base CX k f fd ps (spOf K S1)) (F2 : FnOk P w K mg base CX k f fd ps (spOf K S2)) (h : ∀ ds M Φ, S ds M Φ → S1 ds M Φ ∨ S2 ds M Φ) : FnOk P w K mg base CX k f fd ps (spOf K S) :=
  (fn_or F1 F2).imp fun vs H Q E ⟨P1, M, ds, Φ, i, m, hs, q⟩ => (h ds M Φ hs).elim (fun z => .inl ⟨P1, M, ds, Φ, i, m, z, q⟩) fun z => .inr ⟨P1, M, ds, Φ, i, m, z, q⟩
end
end Dt
set_option Elab.async false
set_option linter.all false
set_option maxRecDepth 100000
set_option maxHeartbeats 2000000
namespace Dt
open PySem PySem.Spec PyProof.Rows L2
section
variable {X : Cx} {Γ : Sl} {M : Mem} {Φ : VP} {Ψ : Po} {a b c e o tg elt iter : Expr} {ifs : List Expr} {scope : Scope} {own : List (Str × Nat)} {body : List Stmt} {pos p pos2 pos' : Pos} {Θ : Sl → Mem → Prop} {d : D}
def rCatL (K : PySem.W.Frag) : R2 := fun x y H Q => ∃ l b xs zs, x = .ref l ∧ y = .ref b ∧ SqL K H l xs ∧ SqL K H b zs ∧ xs.length + zs.length ≤ sizeLine ∧ ∀ p, H p = none → Q (.ref p) (upd H p (.lst (xs ++ zs)))
theorem op_catL : OpR X (binaryOp .Add) (rCatL X.K) := by
  intro pins s σ H x y v u Q I rx ry h
  obtain ⟨l, b, xs, zs, rfl, rfl, hH, hB, hz, q⟩ := h
  cases rx
  cases ry
  obtain ⟨its, r, ⟨⟨cls, dd, data, sl⟩, n, ho, hc, hdd, hd⟩, hl⟩ := I.list hH
  obtain ⟨its2, r2, ⟨⟨cls2, dd2, data2, sl2⟩, n2, ho2, hc2, hdd2, hd2⟩, hl2⟩ := I.list hB
  simp only at hc hd hc2 hd2
  subst hc hd hc2 hd2
  have e : its.toArray ++ its2.toArray = (its ++ its2).toArray := by simp
  have z1 := r.length
  have z2 := r2.length
  refine concat_meets ⟨_, ho, rfl⟩ ⟨_, ho2, rfl⟩ noFill_list_add seq_list_add PySem.F.slot_list_add PySem.F.entry_list_add (PySem.F.args_list_add_2 _ _) (list_addW l b its.toArray its2.toArray n n2 dd dd2 sl sl2 (by rw [List.size_toArray, List.size_toArray]; omega)) ⟨ho, ho2, ?_⟩
  rw [e]
  exact ⟨.ref _, _, I.lnew (t' := s.toks) (r.append r2) (by rw [List.length_append]; omega), rfl, q _ I.fresh⟩
theorem od_catL {x y : D} {ds es : List D} (hx : LstD M x ds) (hy : LstD M y es) (hl : ds.length + es.length ≤ sizeLine) (q : Φ (.lst (ds ++ es)) M) : OpD X (binaryOp .Add) x y M Φ := fun P H a b m ia ib => by
  obtain ⟨l, xs, rfl, h1, h2⟩ := hx.at_ m ia
  obtain ⟨l2, ys, rfl, h3, h4⟩ := hy.at_ m ib
  refine opT_of op_catL ⟨l, l2, xs, ys, rfl, rfl, h1, h3, by rw [h2.1, h4.1]; exact hl, fun p hp => ?_⟩
  obtain ⟨m2, e2⟩ := m.push (o := .lst (xs ++ ys)) hp
  have h5 := h2.append h4
  exact ⟨_, M, _, q, e2, m2, .lst (SqL.of upd_same) h5.1 fun i x d a b => (h5.2 i x d a b).mono e2⟩
end
end Dt
set_option Elab.async false
set_option linter.all false
set_option maxRecDepth 100000
set_option maxHeartbeats 2000000
namespace Dt
open PySem PySem.Spec PyProof.Rows L2
section
variable {X : Cx} {Γ : Sl} {M : Mem} {Φ : VP} {o e : Expr} {apos pos : Pos}
theorem isDs_strs {K : PySem.W.Frag} {P : Hp} (ys : List Str) : IsDs K P (ys.map V.str) (ys.map D.str) := by
  refine ⟨by rw [List.length_map, List.length_map], fun i x d a b => ?_⟩
  rw [List.getElem?_map] at a b
  cases e : ys[i]? with
  | none => rw [e] at a; cases a
  | some n =>
    rw [e] at a b
    cases a
    cases b
    exact .str
theorem we_split (h : WE X Γ M o fun d M1 => ∃ a, d = .str a ∧ a.length + 2 ≤ sizeLine ∧ WE X Γ M1 e fun d2 M2 => ∃ b, d2 = .str b ∧ (b.length == 0) = false ∧ Φ (.lst ((Txt.split a b).map D.str)) M2) (hs : starEach [e] X.env = [(false, eval e X.env)] := by rfl) (hbase : attributeBase o "split" X.env (eval o X.env) = eval o X.env := by rfl) (hline : (apos.endLine == pos.line) = true := by rfl) : WE X Γ M (.Call (.Attribute o "split" apos) [e] [] pos) Φ := fun P σ H s m =>
  wpT_of (pe_split pe_wp pe_wp hs hbase hline) ((h P σ H s m).mono fun x H1 ⟨d, M1, P1, ⟨a, hd, hz, h2⟩, e1, m1, i1⟩ => by
    subst hd
    cases i1
    refine ⟨⟨a, rfl⟩, (h2 P1 σ H1 (s.mono e1) m1).mono fun y H2 ⟨d2, M2, P2, ⟨b, hd2, hb, q⟩, e2, m2, i2⟩ => ?_⟩
    subst hd2
    cases i2
    refine ⟨a, b, rfl, rfl, hb, hz, fun p hp => ?_⟩
    obtain ⟨m3, e3⟩ := m2.push (o := .lst ((Txt.split a b).map V.str)) hp
    have hd := isDs_strs (K := X.K) (P := upd P2 p (.lst ((Txt.split a b).map V.str))) (Txt.split a b)
    exact ⟨_, M2, _, q, (e1.trans e2).trans e3, m3, .lst (SqL.of upd_same) hd.1 hd.2⟩)
theorem cd_intS {a : Str} {n : Int} (hn : PySem.intText? a = some n) (hz : a.length ≤ 640) (q : Φ (.int n) M) : CaD X (.type "int") [.str a] M Φ := cd_of call_int_str fun P H vs m h => by
  obtain ⟨v, rfl, hv⟩ := h.un1
  cases hv
  exact ⟨a, n, rfl, hn, hz, .one q m .int⟩
theorem we_slS {lo hi : Option Expr} {p2 : Pos} (h : WE X Γ M e fun d M1 => WO X Γ M1 lo fun i M2 => WO X Γ M2 hi fun j M3 => ∃ z, d = .str z ∧ z.length ≤ sizeLine ∧ Φ (.str (cutS z i j)) M3) : WE X Γ M (.Subscript e (.Slice lo hi none p2) pos) Φ := fun P σ H s m => by
  refine wpT_of (pe_slice sl_str pe_wp (po_wp lo) (po_wp hi)) ((h P σ H s m).mono fun v H1 ⟨d, M1, P1, q, e1, m1, i1⟩ => wo_run q (s.mono e1) m1 fun i M2 P2 H2 q2 e2 m2 => wo_run q2 (s.mono (e1.trans e2)) m2 fun j M3 P3 H3 ⟨z, hd, hz, q3⟩ e3 m3 => ?_)
  subst hd
  cases i1
  exact ⟨z, rfl, hz, _, M3, P3, q3, (e1.trans e2).trans e3, m3, .str⟩
theorem ix_strI {z : Str} {i : Int} {c : Nat} (hz : z.length ≤ sizeLine) (h : atI z.cps.toList i = some c) (q : Φ (.str ⟨#[c]⟩) M) : IxD X (.str z) (.int i) M Φ := fun P H v u m iv iu => by
  cases iv
  cases iu
  exact .inr (.inr ⟨z, i, c, rfl, rfl, hz, h, .one q m .str⟩)
theorem od_niTS {x : Str} {zs : List Str} (q : Φ (.bl (!decide (x ∈ zs))) M) : OpD X (compareOp .NotIn) (.str x) (.tup (zs.map D.str)) M Φ := fun P H a b m ia ib => by
  cases ia
  cases ib with
  | tup hs hl hi =>
    rw [strs_of ⟨hl, hi⟩] at hs
    exact opT_of op_notIn_seq ⟨_, _, rfl, .inr (Same.tupS m.ex hs), rfl, flat_strs zs, .one (by show Φ (.bl (!inV _ _)) M; rw [inV_strs]; exact q) m .bl⟩
end
end Dt
set_option Elab.async false
set_option linter.all false
set_option maxRecDepth 100000
set_option maxHeartbeats 2000000
namespace Dt
open PySem PySem.Spec PyProof.Rows L2
/-- what a target does to the slots -/
def TgOk (K : PySem.W.Frag) (vs : List Nat) (g : TG) (F : Sl → D → Sl) (fits : D → Prop) : Prop := ∀ (P : Hp) (σ : L2.St) (H : Hp) (Γ : Sl) (y : D) (v : V) (Q : L2.St → Hp → Prop), Ex P H → SOk K Γ P σ → IsD K P v y → fits y → (∀ σ2, SOk K (F Γ y) P σ2 → wipe σ2 vs = wipe σ vs → Q σ2 H) → g v σ H Q
def setN (Γ : Sl) : List Nat → List D → Sl
  | j :: js, d :: ds => setN (Γ.set j (some d)) js ds
  | _, _ => Γ
def setT (js : List Nat) (Γ : Sl) : D → Sl
  | .tup ys => setN Γ js ys
  | _ => Γ
@[reducible] def gNs : List Nat → TGs
  | [] => gNil
  | j :: js => gCons (gName j) (gNs js)
theorem gns_run {K : PySem.W.Frag} {vs : List Nat} {P H : Hp} {Q : L2.St → Hp → Prop} {σ0 : L2.St} : ∀ (js : List Nat) (us : List V) (ys : List D) (σ : L2.St) (Γ : Sl), (∀ j, j ∈ js → j ∈ vs) → IsDs K P us ys → ys.length = js.length → SOk K Γ P σ → wipe σ vs = wipe σ0 vs → (∀ σ2, SOk K (setN Γ js ys) P σ2 → wipe σ2 vs = wipe σ0 vs → Q σ2 H) → gNs js us σ H Q
  | [], us, ys, σ, Γ, hj, i, hl, s, w, q => by
    have : ys = [] := List.length_eq_zero_iff.mp hl
    subst this
    exact ⟨i.unnil, q σ s w⟩
  | j :: js, us, [], σ, Γ, hj, i, hl, s, w, q => by cases hl
  | j :: js, us, y :: ys, σ, Γ, hj, i, hl, s, w, q => by
    obtain ⟨u, r, rfl, hu, hr⟩ := i.uncons
    exact ⟨u, r, rfl, gns_run js r ys (σ.set j (some u)) (Γ.set j (some y)) (fun j h => hj j (List.mem_cons_of_mem _ h)) hr (by simpa using hl) (s.set hu) ((wipe_set (hj j List.mem_cons_self)).trans w) q⟩
theorem tg_tup {K : PySem.W.Frag} {vs js : List Nat} (hj : ∀ j, j ∈ js → j ∈ vs) : TgOk K vs (gTup K js.length (gNs js)) (setT js) (fun y => ∃ ys, y = .tup ys ∧ ys.length = js.length) := fun P σ H Γ y v Q e s i ⟨ys, hy, hl⟩ q => by
  subst hy
  cases i with
  | @tup a us _ hs hl2 hi => exact ⟨a, us, rfl, Same.tupS e hs, by rw [hl2]; exact hl, gns_run js us ys σ Γ hj ⟨hl2, hi⟩ hl s rfl q⟩
section
variable {X : Cx} {Γ : Sl} {M : Mem} {Φ : VP} {Ψ : Po} {elt iter tgt : Expr} {ifs : List Expr} {scope : Scope} {own : List (Str × Nat)} {pos spos py : Pos} {sts : List Stmt} {y : Str} {g : TG} {F : Sl → D → Sl} {fits : D → Prop}
abbrev StepG (X : Cx) (scope : Scope) (own : List (Str × Nat)) (ifs : List Expr) (elt : Expr) (F : Sl → D → Sl) (fits : D → Prop) (Γ : Sl) (xs : List D) (J : Nat → List D → Mem → Prop) : Prop := ∀ (i : Nat) (y : D) (l : Addr) (out : List D) (M' : Mem), xs[i]? = some y → J i out M' → fits y ∧ Turn1 X scope ifs elt (J (i + 1)) (F (wipeD Γ (own.map (·.2))) y) l out M'
/-- what a comprehension's parts come to, item by item, with memory as it is -/
structure CompG (X : Cx) (Γ : Sl) (scope : Scope) (own : List (Str × Nat)) (F : Sl → D → Sl) (fits : D → Prop) (ifs : List Expr) (elt : Expr) {α : Type} (as : List α) (f : α → D) (p : α → Bool) (gd : α → D) (M1 : Mem) : Prop where
  len : as.length < sizeLine
  fit : ∀ a, a ∈ as → fits (f a)
  test : ∀ a, a ∈ as → ∀ l out s H C cl fp, WTs (blkOf X scope s H C cl fp) (F (wipeD Γ (own.map (·.2))) (f a)) ((l, .lst out) :: M1) ifs fun k M2 => k = p a ∧ M2 = (l, .lst out) :: M1
  item : ∀ a, a ∈ as → p a = true → ∀ l out s H C cl fp, WE (blkOf X scope s H C cl fp) (F (wipeD Γ (own.map (·.2))) (f a)) ((l, .lst out) :: M1) elt fun z M2 => z = gd a ∧ M2 = (l, .lst out) :: M1
theorem comp_step {α : Type} {as : List α} {f : α → D} {p : α → Bool} {gd : α → D} {M1 : Mem} (h : CompG X Γ scope own F fits ifs elt as f p gd M1) : StepG X scope own ifs elt F fits Γ (as.map f) (fun i out M' => out = ((as.take i).filter p).map gd ∧ M' = M1) := by
  rintro i y l out M' hy ⟨rfl, rfl⟩
  obtain ⟨a, ha, rfl⟩ := getMap hy
  have hm := List.mem_of_getElem? ha
  have hi := (List.getElem?_eq_some_iff.mp ha).1
  refine ⟨h.fit a hm, fun s H C cl fp P σ H2 so mo => ?_⟩
  refine (show WTs _ _ _ ifs _ from ?_) P σ H2 so mo
  have h1 := h.test a hm l (((as.take i).filter p).map gd) s H C cl fp
  refine fun P σ H2 so mo pins sh I => thn (h1 P σ H2 so mo pins sh I) fun b s' ⟨H', I', M2, P2, ⟨hk, hM⟩, e2, m2⟩ => ⟨H', I', M2, P2, ⟨fun hb s H C cl fp => ?_, fun hb => ?_⟩, e2, m2⟩
  · subst hM
    rw [hk] at hb
    refine (h.item a hm hb l _ s H C cl fp).mono fun z M3 ⟨hz, hM3⟩ => ⟨M', hM3, ?_, ?_, rfl⟩
    · have := List.length_filter_le p (as.take i)
      have hl := h.len
      rw [List.length_map]
      rw [List.length_take] at this
      omega
    · rw [take_1 ha, List.filter_append, List.filter_cons, hb, List.map_append, hz]
      rfl
  · subst hM
    rw [hk] at hb
    refine ⟨M', rfl, ?_, rfl⟩
    rw [take_1 ha, List.filter_append, List.filter_cons, hb]
    simp
end
end Dt
set_option Elab.async false
set_option linter.all false
set_option maxRecDepth 100000
set_option maxHeartbeats 2000000
namespace Dt
open PySem PySem.Spec PyProof.Rows L2
theorem isS_nat (n : Nat) : TL.tl (isS (n : Int)) = TL.numL n := TL.tl_num n
theorem isS_neg (n : Nat) : TL.tl (isS (Int.negSucc n)) = 45 :: TL.numL (n + 1) := by
  have e : toString (Int.negSucc n) = "-" ++ Nat.repr (n + 1) := rfl
  have e2 : toString (((n + 1 : Nat)) : Int) = Nat.repr (n + 1) := rfl
  have h1 := TL.tl_num (n + 1)
  rw [e2, TL.tl_ofString] at h1
  unfold isS
  rw [e, TL.tl_ofString, String.toList_append, List.map_append, h1]
  rfl
theorem isS_free {i : Int} {s : Nat} (h : s < 45 ∨ (45 < s ∧ s < 48) ∨ 57 < s) : s ∉ TL.tl (isS i) := by
  cases i with
  | ofNat n =>
    show s ∉ TL.tl (isS (n : Int))
    rw [isS_nat]
    exact TL.numL_free (by omega)
  | negSucc n =>
    rw [isS_neg]
    intro hm
    rcases List.mem_cons.mp hm with e | e
    · omega
    · exact TL.numL_free (by omega) e
theorem isS_inj {i j : Int} (h : isS i = isS j) : i = j := by
  have h := congrArg TL.tl h
  cases i with
  | ofNat n =>
    cases j with
    | ofNat m =>
      have h : TL.tl (isS (n : Int)) = TL.tl (isS (m : Int)) := h
      rw [isS_nat, isS_nat] at h
      rw [TL.numL_inj h]
    | negSucc m =>
      exfalso
      have h : TL.tl (isS (n : Int)) = _ := h
      rw [isS_nat, isS_neg] at h
      have : 45 ∈ TL.numL n := by rw [h]; exact List.mem_cons_self
      exact TL.numL_free (by omega) this
  | negSucc n =>
    cases j with
    | ofNat m =>
      exfalso
      have h : _ = TL.tl (isS (m : Int)) := h
      rw [isS_nat, isS_neg] at h
      have : 45 ∈ TL.numL m := by rw [← h]; exact List.mem_cons_self
      exact TL.numL_free (by omega) this
    | negSucc m =>
      rw [isS_neg, isS_neg] at h
      have := TL.numL_inj (List.cons.inj h).2
      have e : n = m := by omega
      rw [e]
theorem isS_len {i : Int} {k : Nat} (hk : 0 < k) (h : i.natAbs < 10 ^ k) : (isS i).length ≤ k + 1 := by
  unfold isS
  rw [PySem.ofString_length]
  exact int_text_length_le10 hk h
theorem spJ_split {parts : List Str} (hne : parts ≠ []) (hp : ∀ p, p ∈ parts → 32 ∉ TL.tl p) : Txt.split (spJ parts) " " = parts := TL.split_join (S := []) sp_tl (by decide +kernel) hne hp
end Dt
set_option Elab.async false
set_option linter.all false
set_option maxRecDepth 100000
set_option maxHeartbeats 2000000
namespace Dt
open PySem PySem.Spec PyProof.Rows L2
theorem nlJ_split {parts : List Str} (hne : parts ≠ []) (hp : ∀ p, p ∈ parts → 10 ∉ TL.tl p) : Txt.split (nlJ parts) "\n" = parts := TL.split_join (S := []) nl_tl (by decide +kernel) hne hp
theorem spJ_free {s : Nat} (hs : s ≠ 32) : ∀ {parts : List Str}, (∀ p, p ∈ parts → s ∉ TL.tl p) → s ∉ TL.tl (spJ parts)
  | [], _ => by rw [spJ_tl]; simp [TL.joinL]
  | [a], h => by rw [spJ_one]; exact h a List.mem_cons_self
  | a :: b :: r, h => by
    rw [spJ_two, TL.tl_append, TL.tl_append, sp_tl]
    simp only [List.mem_append, List.mem_singleton, not_or]
    exact ⟨h a List.mem_cons_self, hs, spJ_free hs fun p hp => h p (List.mem_cons_of_mem _ hp)⟩
end Dt
set_option Elab.async false
set_option linter.all false
set_option maxRecDepth 100000
set_option maxHeartbeats 2000000
namespace Dt
open PySem PySem.Spec PyProof.Rows L2
theorem numL_short {n : Nat} (h : n < 10 ^ 18) : (TL.numL n).length ≤ 18 := TL.numL_len (by decide) h
theorem isS_int {i : Int} (h : i.natAbs < 10 ^ 18) : PySem.intText? (isS i) = some i := by
  cases i with
  | ofNat n =>
    have h : n < 10 ^ 18 := h
    exact TL.int_num (Nat.le_trans (numL_short h) (by decide))
  | negSucc n =>
    have h : n + 1 < 10 ^ 18 := h
    have e := PySem.intText_neg (x := isS (Int.negSucc n)) (isS_neg n) (TL.numL_digits (n + 1)) (TL.numL_ne (n + 1)) (by
      rw [TL.len_tl, isS_neg, List.length_cons]
      have := numL_short h
      omega)
    rw [TL.numL_val] at e
    exact e
theorem numL_head : ∀ (n : Nat) {c : Nat} {r : List Nat}, TL.numL n = c :: r → c = 48 → n = 0
  | n, c, r, h, hc => by
    by_cases hn : n < 10
    · rw [TL.numL_lt hn] at h
      cases h
      omega
    · rw [TL.numL_step (by omega)] at h
      cases e : TL.numL (n / 10) with
      | nil => exact absurd e (TL.numL_ne _)
      | cons c' r' =>
        rw [e] at h
        rw [List.cons_append] at h
        injection h with h1 h2
        subst h1
        have := numL_head (n / 10) e hc
        omega
  termination_by n => n
theorem tl_cut1 (z : Str) (h : 1 ≤ z.length) : TL.tl (cutS z none (some 1)) = (TL.tl z).take 1 := by
  show ((z.cps.toList.drop (HT.sIx z.length 0 none)).take (HT.sIx z.length z.length (some 1) - HT.sIx z.length 0 none)) = _
  rw [HT.sIx_none, show HT.sIx z.length z.length (some 1) = 1 from (HT.sIx_nat z.length z.length 1).trans (Nat.min_eq_left h)]
  rfl
theorem tl_rest1 (z : Str) (h : 1 ≤ z.length) : TL.tl (cutS z (some 1) none) = (TL.tl z).drop 1 := by
  show ((z.cps.toList.drop (HT.sIx z.length 0 (some 1))).take (HT.sIx z.length z.length none - HT.sIx z.length 0 (some 1))) = _
  rw [HT.sIx_none, show HT.sIx z.length 0 (some 1) = 1 from (HT.sIx_nat z.length 0 1).trans (Nat.min_eq_left h)]
  refine List.take_of_length_le ?_
  rw [List.length_drop, Array.length_toList]
  exact Nat.le_refl _
end Dt
set_option Elab.async false
set_option linter.all false
set_option maxRecDepth 100000
set_option maxHeartbeats 2000000
set_option Elab.async false
set_option linter.all false
set_option maxRecDepth 100000
set_option maxHeartbeats 4000000
namespace Dt
open PySem PySem.Spec PyProof.Rows L2
abbrev XPs := Sl → Addr → List (Str × D) → Mem → Prop
def FinXs (X : Cx) (P : Hp) (Ξ : XPs) : WX := fun cls d σ H => ∃ Γ C dd fs ds M' P2, cls = .ref C ∧ d = some dd ∧ P2 dd = some (.xd fs) ∧ IsFs X.K P2 fs ds ∧ Ξ Γ C ds M' ∧ Ex P P2 ∧ SOk X.K Γ P2 σ ∧ MOk X.K M' P2 H
def WSz (X : Cx) (Γ : Sl) (M : Mem) (sts : List Stmt) (Ψ : Po) (Ξ : XPs) : Prop := ∀ P σ H, SOk X.K Γ P σ → MOk X.K M P H → Takes X (FinXs X P Ξ) → wpSs X sts (Ψ.ends X.K P) σ H
theorem sok_none {K : PySem.W.Frag} {P : Hp} {σ : L2.St} {n : Nat} (h : σ.length = n) : SOk K (List.replicate n none) P σ := ⟨by rw [List.length_replicate, h], fun i d q => by
  have z := (List.mem_replicate.mp (List.mem_of_getElem? q)).2
  cases z⟩
section
variable {X : Cx} {Γ : Sl} {M : Mem} {Φ : VP} {Ψ : Po} {e a b : Expr} {es : List Expr} {sts : List Stmt} {pos p pos' : Pos} {k : Nat} {x : Str} {i : Nat}
theorem wsz_x {Ξ : XP} {Ξ' : XPs} (h : WSx X Γ M sts Ψ Ξ) (q : ∀ C ds M', Ξ C ds M' → Ξ' (List.replicate X.N.length none) C ds M') : WSz X Γ M sts Ψ Ξ' := fun P σ H s m tk => h P σ H s m (tk.imp fun cls d σ' H' ⟨hl, C, dd, fs, ds, M', P2, a1, a2, a3, a4, a5, a6, a7⟩ => ⟨_, C, dd, fs, ds, M', P2, a1, a2, a3, a4, q _ _ _ a5, a6, sok_none hl, a7⟩)
section
variable {ad dd C : Addr} {oe : Obj} {pn : List (Addr × Obj)} {fs : List (Str × D)} {f : Str} {d : D}
theorem at_exc (T : XfC X.K C) (no : PySem.W.findIn X.K (.ref C) f = some none) (hz : Zc (.ref C) (some dd) oe) (hf : ∃ vs, oe.data = .fields vs) (hl : fs.lookup f = some d) (q : Φ d M) : AtD (X.suite ad ((ad, oe) :: pn)) f (.exc ad dd C fs) M Φ := fun P H v m i pins σ s u I r => by
  cases i with
  | exc h h1 h2 =>
    cases r
    obtain ⟨w, hw1, hw2⟩ := IsFs.lookup ⟨h1, h2⟩ hl
    have hH : H dd = some (.xd _) := m.ex _ _ h
    obtain ⟨ha, _⟩ := I.pin (ad, oe) (List.mem_append_left _ List.mem_cons_self)
    obtain ⟨vs, hd⟩ := hf
    have hx : ObjOk X.prog X.w H s.heap dd (.xd _) := I.hok dd _ hH
    obtain ⟨mA, hns, hr⟩ := hx
    obtain ⟨od, ho, hl2⟩ := lookIn_ns hns
    obtain ⟨u, hu, ru⟩ := RelO.some_of (v := w) (o := mA f) (by rw [← hw1]; exact hr f)
    have J : PySem.W.InstAt s.heap ad oe C (some od) := ⟨ha, hz.1, by unfold PySem.W.notCls; rw [hd] <;> rfl, by rw [hz.2]; exact ho⟩
    exact HandSPX.exc_get I.kIn J T.ga T.gg T.exC (PySem.W.findObj_own T.hdC no rfl (by rw [hl2, hu])) (handed_of ru) ⟨w, H, I.tok _, ru, d, M, P, q, Same.refl P, m, hw2⟩
theorem call_isExc (T : XcC X.K C f) (hz : Zc (.ref C) (some dd) oe) (hf : ∃ vs, oe.data = .fields vs) {cv : Value} {dc : D} {b : Bool} (hc : ∀ P v u, IsD X.K P v dc → RelV v u → u = cv) (hk : PySem.W.kitOne X.K (.ref C) cv = some b) (q : Φ (.bl b) M) : CaD (X.suite ad ((ad, oe) :: pn)) (.builtin "isinstance") [.exc ad dd C fs, dc] M Φ := fun P H vs m i => by
  obtain ⟨v1, r1, rfl, i1, ir⟩ := i.uncons
  obtain ⟨v2, r2, rfl, i2, ir2⟩ := ir.uncons
  obtain rfl := ir2.unnil
  cases i1 with
  | exc h h1 h2 => exact caT_of (call_isX T hz hf) ⟨v2, cv, b, _, rfl, fun u ru => hc P v2 u i2 ru, hk, m.ex _ _ h, _, M, P, q, Same.refl P, m, .bl⟩
theorem cls_adr {K : PySem.W.Frag} {B : Addr} : ∀ P v u, IsD K P v (.adr B) → RelV v u → u = .ref B := fun P v u i r => by
  cases i
  exact r
end
/-- try: body / except x as n: any suite -/
theorem w1_tryAs {n : Str} {c : Value} {b₀ : Stmt} {suite body : List Stmt} {np : Pos} (hN : X.N.Nodup) (hi : X.N[i]? = some n) (hc : Names X x c)
    (hbody : ∀ (pn : List (Addr × Obj)) (xe : Value → Shared → Prop), PassesOwn (model X.prog X.w) X.A X.env xe → WSz (X.tr pn xe) Γ M body Ψ fun Γx C ds M' => PySem.W.exmOne X.K (.ref C) c = some true ∧
      ∀ (ad dd : Addr) (oe : Obj) (pn : List (Addr × Obj)), Zc (.ref C) (some dd) oe → (∃ vs, oe.data = .fields vs) → WS (X.suite ad ((ad, oe) :: pn)) (Γx.set i (some (.exc ad dd C ds))) M' (b₀ :: suite) { nx := fun Γ2 M2 => Ψ.nx (Γ2.set i none) M2, rt := Ψ.rt, bk := fun Γ2 M2 => Ψ.bk (Γ2.set i none) M2, ct := fun Γ2 M2 => Ψ.ct (Γ2.set i none) M2 })
    (hs : X.stack = X.env :: X.outer := by rfl) (hf : X.env.frame = some X.env.locals := by rfl) (hln : X.env.kindOf n = some .local := by rfl) :
    W1 X Γ M (.Try body [.ExceptHandler (some (.Name x np)) (some n) (b₀ :: suite) pos'] [] [] pos) Ψ := fun P σ H s m => by
  have tk0 : Takes X (fun _ _ _ _ => False) := fun u s' ⟨_, _, _, _, _, _, _, _, _, _, _, _, _, _, _, _, w⟩ => w.elim
  refine wpS_of (ps_try_as (tb := fun W D σ H => ∀ pn xe, Takes (X.tr pn xe) W → PassesOwn (model X.prog X.w) X.A X.env xe → wpSs (X.tr pn xe) body D σ H)
    (ts := fun a cls d D σ H => ∀ oe pn, Zc cls d oe → (∃ vs, oe.data = .fields vs) → wpSs (X.suite a ((a, oe) :: pn)) (b₀ :: suite) D σ H) hs hf hN hi hln hc tk0
    (fun W pn xe tk po => ⟨fun pins s σ H D I h => h pn xe tk po pins s I⟩) (fun a oe cls d pn hz hff => ⟨fun pins s σ H D I h => h oe pn hz hff pins s I⟩)) ?_
  intro pn xe tk po
  refine hbody pn xe po P σ H s m (tk.imp fun cls d σ' H' ⟨Γx, C, dd, fs, ds, M', P2, e1, e2, hdd, hfs, ⟨hex, hsu⟩, eP, sx, mP⟩ => ?_)
  subst e1 e2
  refine ⟨true, hex, fun _ a ha oe pn' hz hfl => ?_, fun z => nomatch z⟩
  have wipe1 : ∀ {Γ2 : Sl} {P3 : Hp} {σ2 : L2.St}, SOk X.K Γ2 P3 σ2 → SOk X.K (Γ2.set i none) P3 (σ2.set i none) := fun {Γ2 P3 σ2} h => ⟨by rw [List.length_set, List.length_set]; exact h.len, fun j d q => by
    by_cases hj : i = j
    · subst hj
      by_cases hb : i < Γ2.length
      · rw [List.getElem?_set_self hb] at q
        cases q
      · rw [List.getElem?_eq_none (by rw [List.length_set]; omega)] at q
        cases q
    · rw [List.getElem?_set_ne hj] at q
      rw [List.getElem?_set_ne hj]
      exact h.at_ j d q⟩
  have run := hsu a dd oe pn' hz hfl P2 (σ'.set i (some (V.ref a))) H' (sx.set (.exc hdd hfs.1 hfs.2)) mP
  exact run.mono ⟨fun σ2 H2 ⟨Γ2, M2, P3, q, e3, s3, m3⟩ => ⟨_, M2, P3, q, eP.trans e3, wipe1 s3, m3⟩, fun v H2 z => z.up eP, fun σ2 H2 ⟨Γ2, M2, P3, q, e3, s3, m3⟩ => ⟨_, M2, P3, q, eP.trans e3, wipe1 s3, m3⟩, fun σ2 H2 ⟨Γ2, M2, P3, q, e3, s3, m3⟩ => ⟨_, M2, P3, q, eP.trans e3, wipe1 s3, m3⟩⟩
end
end Dt
set_option Elab.async false
set_option linter.all false
set_option maxRecDepth 100000
set_option maxHeartbeats 4000000
set_option Elab.async false
set_option linter.all false
set_option maxRecDepth 100000
set_option maxHeartbeats 4000000
set_option Elab.async false
set_option linter.all false
set_option maxRecDepth 100000
set_option maxHeartbeats 2000000
namespace Dt
open PySem PySem.Spec PyProof.Rows L2
/-- one of two promises -/
def orS (S T : DS) : DS := fun ds M Φ => S ds M Φ ∨ T ds M Φ
theorem fn_orS {P : Program} {w : World} {K : PySem.W.Frag} {mg : Str → Option Value} {base : Heap} {CX : CXT} {k : Nat} {f : Addr} {fd : FuncData} {ps : List Str} {S T : DS} (F : FnOk P w K mg base CX k f fd ps (spOf K S)) (G : FnOk P w K mg base CX k f fd ps (spOf K T)) : FnOk P w K mg base CX k f fd ps (spOf K (orS S T)) :=
  ⟨fun vs H Q E ⟨P1, M, ds, Φ, h1, h2, h3, h4⟩ => h3.elim (fun h => F.len vs H Q E ⟨P1, M, ds, Φ, h1, h2, h, h4⟩) fun h => G.len vs H Q E ⟨P1, M, ds, Φ, h1, h2, h, h4⟩,
   fun A outer s H args us vs Q E hr he hb hv ⟨P1, M, ds, Φ, h1, h2, h3, h4⟩ => h3.elim (fun h => F.run A outer s H args us vs Q E hr he hb hv ⟨P1, M, ds, Φ, h1, h2, h, h4⟩) fun h => G.run A outer s H args us vs Q E hr he hb hv ⟨P1, M, ds, Φ, h1, h2, h, h4⟩⟩
end Dt
set_option Elab.async false
set_option linter.all false
set_option maxRecDepth 100000
set_option maxHeartbeats 2000000
set_option Elab.async false
set_option linter.all false
set_option maxRecDepth 100000
set_option maxHeartbeats 4000000
set_option Elab.async false
set_option linter.all false
set_option maxRecDepth 100000
set_option maxHeartbeats 4000000
set_option Elab.async false
set_option linter.all false
set_option maxRecDepth 100000
set_option maxHeartbeats 4000000
set_option Elab.async false
set_option linter.all false
set_option maxRecDepth 100000
set_option maxHeartbeats 2000000
namespace Dt
open PySem PySem.Spec PyProof.Rows L2 PySem.NumText
/-- signs that are digits, with no needless nought ahead -/
structure NumLike (l : List Nat) : Prop where
  dg : AllDigits l
  ne : l ≠ []
  lead : ∀ r, l = 48 :: r → r = []
theorem numL_back : ∀ (n : Nat) (l : List Nat), l.length = n → NumLike l → TL.numL (digitsVal l) = l
  | 0, l, hl, h => absurd (List.eq_nil_of_length_eq_zero hl) h.ne
  | n + 1, l, hl, h => by
    obtain ⟨i, c, rfl⟩ : ∃ i c, l = i ++ [c] := ⟨l.dropLast, l.getLast h.ne, (List.dropLast_concat_getLast h.ne).symm⟩
    have hc := h.dg c (by simp)
    rw [digitsVal_snoc]
    by_cases hi : i = []
    · subst hi
      show TL.numL (0 * 10 + (c - 48)) = [c]
      rw [TL.numL_lt (by omega)]
      rw [show 48 + (0 * 10 + (c - 48)) = c by omega]
    · have hd : AllDigits i := fun x hx => h.dg x (List.mem_append.mpr (.inl hx))
      have hn : NumLike i := ⟨hd, hi, fun r e => by
        have := h.lead (r ++ [c]) (by rw [e]; rfl)
        simp at this⟩
      have ih := numL_back n i (by rw [List.length_append] at hl; simpa using hl) hn
      have hp : 0 < digitsVal i := by
        cases i with
        | nil => exact absurd rfl hi
        | cons x r =>
          have hx := hd x List.mem_cons_self
          by_cases h48 : x = 48
          · subst h48
            have := h.lead (r ++ [c]) rfl
            simp at this
          · exact digitsVal_pos (by omega)
      rw [TL.numL_step (by omega), show (digitsVal i * 10 + (c - 48)) / 10 = digitsVal i by omega, ih, show 48 + (digitsVal i * 10 + (c - 48)) % 10 = c by omega]
theorem isS_of_dig {t : Str} (h : NumLike (TL.tl t)) : t = isS (digitsVal (TL.tl t) : Nat) := TL.ext_tl (by rw [isS_nat, numL_back _ _ rfl h])
theorem isS_of_neg {t : Str} {r : List Nat} (e : TL.tl t = 45 :: r) (h : NumLike r) (h0 : r ≠ [48]) : ∃ k, t = isS (Int.negSucc k) := by
  have hb := numL_back _ _ rfl h
  cases hv : digitsVal r with
  | zero =>
    rw [hv, show TL.numL 0 = [48] by decide +kernel] at hb
    exact absurd hb.symm h0
  | succ k => exact ⟨k, TL.ext_tl (by rw [isS_neg, e, ← hv, hb])⟩
/-- a text writes a number -/
def IsNum (t : Str) : Prop := ∃ n : Int, t = isS n
open Classical in
noncomputable def numO (t : Str) : Option Int := if h : IsNum t then some h.choose else none
theorem numO_isS (n : Int) : numO (isS n) = some n := by
  have h : IsNum (isS n) := ⟨n, rfl⟩
  unfold numO
  rw [dif_pos h]
  exact congrArg some (isS_inj h.choose_spec.symm)
theorem numO_none {t : Str} (h : ¬ IsNum t) : numO t = none := dif_neg h
noncomputable def numD (t : Str) : D := match numO t with | some n => .int n | none => .non
theorem numD_isS (n : Int) : numD (isS n) = .int n := by unfold numD; rw [numO_isS]
theorem numD_none {t : Str} (h : ¬ IsNum t) : numD t = .non := by unfold numD; rw [numO_none h]
/-- a text without the minus -/
theorem tl_min : TL.tl ("-" : Str) = [45] := by decide +kernel
theorem cut_min {t : Str} : cutS t none (some 1) = "-" ↔ ∃ r, TL.tl t = 45 :: r := by
  by_cases hl : 1 ≤ t.length
  · have h1 := tl_cut1 t hl
    constructor
    · intro e
      rw [e, tl_min] at h1
      cases h : TL.tl t with
      | nil => rw [h] at h1; cases h1
      | cons c r =>
        rw [h] at h1
        have := (List.cons.inj h1).1
        subst this
        exact ⟨r, rfl⟩
    · rintro ⟨r, e⟩
      rw [e] at h1
      exact TL.ext_tl (by rw [h1, tl_min]; rfl)
  · have h0 : TL.tl t = [] := TL.len0_tl t |>.mp (by omega)
    constructor
    · intro e
      exfalso
      have h1 := cutS_length t none (some 1)
      rw [e] at h1
      have h2 : ("-" : Str).length = 1 := by decide +kernel
      omega
    · rintro ⟨r, e⟩
      rw [h0] at e
      cases e
/-- what stands behind the minus, if there is one -/
def digT (t : Str) : Str := if cutS t none (some 1) = "-" then cutS t (some 1) none else t
theorem digT_cases (t : Str) : (cutS t none (some 1) = "-" ∧ digT t = cutS t (some 1) none ∧ TL.tl t = 45 :: TL.tl (digT t)) ∨ (cutS t none (some 1) ≠ "-" ∧ digT t = t) := by
  by_cases h : cutS t none (some 1) = "-"
  · refine .inl ⟨h, if_pos h, ?_⟩
    obtain ⟨r, e⟩ := cut_min.mp h
    have hl : 1 ≤ t.length := by rw [TL.len_tl, e, List.length_cons]; omega
    rw [show digT t = _ from if_pos h, tl_rest1 t hl, e]
    rfl
  · exact .inr ⟨h, if_neg h⟩
theorem num_pass {t : Str} (h1 : digT t ≠ "") (h2 : AllDigits (TL.tl (digT t))) (h3 : ∀ r, TL.tl (digT t) = 48 :: r → t = "0") : IsNum t := by
  have hne : TL.tl (digT t) ≠ [] := fun e => h1 (TL.ext_tl (by rw [e]; rfl))
  have h0 : TL.tl ("0" : Str) = [48] := by decide +kernel
  rcases digT_cases t with ⟨_, _, e⟩ | ⟨_, e⟩
  · obtain ⟨k, hk⟩ := isS_of_neg e ⟨h2, hne, fun r er => by
      have := h3 r er
      rw [this, h0] at e
      cases e⟩ (fun er => by
      have := h3 [] er
      rw [this, h0] at e
      cases e)
    exact ⟨_, hk⟩
  · rw [e] at h2 hne h3
    exact ⟨_, isS_of_dig ⟨h2, hne, fun r er => by
      have := h3 r er
      rw [this, h0] at er
      cases er
      rfl⟩⟩
theorem num_fail {t : Str} (h : ¬ IsNum t) (h1 : digT t ≠ "") (h2 : AllDigits (TL.tl (digT t))) : ∃ r, TL.tl (digT t) = 48 :: r ∧ t ≠ "0" := by
  cases e : TL.tl (digT t) with
  | nil => exact absurd (TL.ext_tl (by rw [e]; rfl)) h1
  | cons c r =>
    by_cases hc : c = 48
    · subst hc
      by_cases h0 : t = "0"
      · exact absurd ⟨0, by rw [h0]; decide +kernel⟩ h
      · exact ⟨r, rfl, h0⟩
    · exact absurd (num_pass h1 h2 fun r2 e2 => by
        rw [e] at e2
        exact absurd (List.cons.inj e2).1 hc) h
theorem digitsVal_lt : ∀ (n : Nat) (l : List Nat), l.length = n → AllDigits l → digitsVal l < 10 ^ n
  | 0, l, hl, h => by rw [List.eq_nil_of_length_eq_zero hl]; decide
  | n + 1, l, hl, h => by
    have hne : l ≠ [] := fun e => by rw [e] at hl; cases hl
    obtain ⟨i, c, rfl⟩ : ∃ i c, l = i ++ [c] := ⟨l.dropLast, l.getLast hne, (List.dropLast_concat_getLast hne).symm⟩
    have hc := h c (by simp)
    have ih := digitsVal_lt n i (by rw [List.length_append] at hl; simpa using hl) (fun x hx => h x (List.mem_append.mpr (.inl hx)))
    rw [digitsVal_snoc, Nat.pow_succ]
    omega
theorem WdOk.num {w : Str} (h : WdOk w) {n : Int} (e : w = isS n) : -999 ≤ n ∧ n ≤ 999 := by
  subst e
  have key : (isS n).length ≤ 3 := by
    rcases h.hd with h1 | ⟨c, r, e, h1⟩
    · exact h1
    · exfalso
      exact isS_free (i := n) (s := c) (by omega) (by rw [e]; exact List.mem_cons_self)
  rw [TL.len_tl] at key
  cases n with
  | ofNat k =>
    have key : (TL.tl (isS (k : Int))).length ≤ 3 := key
    rw [isS_nat] at key
    have h1 := digitsVal_lt _ _ rfl (TL.numL_digits k)
    rw [TL.numL_val] at h1
    have : 10 ^ (TL.numL k).length ≤ 10 ^ 3 := Nat.pow_le_pow_right (by decide) key
    show -999 ≤ (k : Int) ∧ (k : Int) ≤ 999
    omega
  | negSucc k =>
    rw [isS_neg, List.length_cons] at key
    have h1 := digitsVal_lt _ _ rfl (TL.numL_digits (k + 1))
    rw [TL.numL_val] at h1
    have : 10 ^ (TL.numL (k + 1)).length ≤ 10 ^ 3 := Nat.pow_le_pow_right (by decide) (by omega)
    omega
theorem LnOk.split {n : Nat} {ws : List Str} (h : LnOk n ws) : Txt.split (spJ ws) " " = ws := spJ_split h.ne fun p hp => (h.wd p hp).sp
theorem LnOk.nl {n : Nat} {ws : List Str} (h : LnOk n ws) : 10 ∉ TL.tl (spJ ws) := spJ_free (by decide) fun p hp => (h.wd p hp).nl
theorem TxOk.split {m n : Nat} {T : List (List Str)} (h : TxOk m n T) : Txt.split (txJ T) "\n" = T.map spJ := nlJ_split (by simpa using h.ne) fun p hp => by
  obtain ⟨ws, hw, rfl⟩ := List.mem_map.mp hp
  exact (h.ls ws hw).nl
end Dt
set_option Elab.async false
set_option linter.all false
set_option maxRecDepth 100000
set_option maxHeartbeats 2000000
namespace Dt
open PySem PySem.Spec PyProof.Rows L2
def wdB (w : Str) : Bool := decide (w.length ≤ 6) && (TL.tl w).all (fun c => decide (c ≠ 32) && decide (c ≠ 10) && decide (c < 128)) && (decide (w.length ≤ 3) || (TL.tl w).headD 0 ≥ 97)
theorem wd_lit {w : Str} (h : wdB w = true) : WdOk w := by
  unfold wdB at h
  rw [Bool.and_eq_true, Bool.and_eq_true, Bool.or_eq_true, List.all_eq_true, decide_eq_true_eq, decide_eq_true_eq] at h
  obtain ⟨⟨h1, h2⟩, h3⟩ := h
  have h2 : ∀ c, c ∈ TL.tl w → (c ≠ 32 ∧ c ≠ 10) ∧ c < 128 := fun c hc => by
    have := h2 c hc
    rw [Bool.and_eq_true, Bool.and_eq_true, decide_eq_true_eq, decide_eq_true_eq, decide_eq_true_eq] at this
    exact this
  refine ⟨h1, fun h => (h2 _ h).1.1 rfl, fun h => (h2 _ h).1.2 rfl, h3.elim .inl fun h3 => .inr ?_, fun c hc => (h2 c hc).2⟩
  cases e : TL.tl w with
  | nil =>
    rw [e] at h3
    exact absurd h3 (by decide)
  | cons c r =>
    rw [e] at h3
    exact ⟨c, r, rfl, of_decide_eq_true h3⟩
theorem LnOk.up {n m : Nat} {ws : List Str} (h : LnOk n ws) (hm : n ≤ m) : LnOk m ws := ⟨h.ne, Nat.le_trans h.ln hm, h.wd⟩
theorem TxOk.up {n m n2 m2 : Nat} {T : List (List Str)} (h : TxOk m n T) (hm : m ≤ m2) (hn : n ≤ n2) : TxOk m2 n2 T := ⟨h.ne, Nat.le_trans h.ln hm, fun ws hw => (h.ls ws hw).up hn⟩
end Dt
set_option Elab.async false
set_option linter.all false
set_option maxRecDepth 100000
set_option maxHeartbeats 2000000
namespace Dt
open PySem PySem.Spec PyProof.Rows L2 LamX
def emp : Hp := fun _ => none
section
variable {K : PySem.W.Frag} {M : Mem} {P H H1 : Hp} {k : Nat} {a : Addr} {q : Str} {R R' : Hp}
theorem ex_emp : Ex emp P := fun _ _ h => by cases h
theorem MOk.tabS (m : MOk K M P H) (e : M[k]? = some (a, .tab q R)) : TabS H a q := by
  obtain ⟨_, _, ps, h1, h2, h3⟩ := m.get e
  exact ⟨ps, h1, h2, fun pos cv hc => let ⟨c, e1, e2⟩ := h3 pos cv hc; ⟨c, e1, m.ex _ _ e2⟩⟩
theorem MOk.tabR (m : MOk K M P H) (e : M[k]? = some (a, .tab q R)) : Ex R P := (m.get e).2.1
theorem upd_id {a : Addr} {o : HO} (h : H a = some o) : upd H a o = H := by
  funext b
  by_cases hb : b = a
  · subst hb
    rw [upd_same, h]
  · rw [upd_ne hb]
theorem MOk.retag (m : MOk K M P H) (e : M[k]? = some (a, .tab q R)) (hr : Ex R' P) : MOk K (M.set k (a, .tab q R')) P H := by
  obtain ⟨_, _, ps, h1, h2, h3⟩ := m.get e
  have z := m.put e (m' := .tab q R') (o := .tbl ps) ⟨hr, ps, by rw [upd_same], h2, h3⟩
  rw [upd_id h1] at z
  exact z
open Classical in
/-- what is known once the table has grown -/
noncomputable def moreP (P H1 : Hp) (q : Str) : Hp := fun b => match P b with
  | some o => some o
  | none => if H1 b = some (CodeO b q) then some (CodeO b q) else none
theorem moreP_some {b : Addr} {o : HO} (h : P b = some o) : moreP P H1 q b = some o := by unfold moreP; rw [h]
theorem moreP_code {b : Addr} (h : P b = none) (h1 : H1 b = some (CodeO b q)) : moreP P H1 q b = some (CodeO b q) := by unfold moreP; rw [h]; exact if_pos h1
theorem moreP_none {b : Addr} (h : P b = none) (h1 : H1 b ≠ some (CodeO b q)) : moreP P H1 q b = none := by unfold moreP; rw [h]; exact if_neg h1
theorem moreP_or {b : Addr} {o : HO} (h : moreP P H1 q b = some o) : P b = some o ∨ (o = CodeO b q ∧ H1 b = some (CodeO b q)) := by
  cases hp : P b with
  | some u =>
    rw [moreP_some hp] at h
    exact .inl h
  | none =>
    by_cases h1 : H1 b = some (CodeO b q)
    · rw [moreP_code hp h1] at h
      exact .inr ⟨(Option.some.inj h).symm, h1⟩
    · rw [moreP_none hp h1] at h
      cases h
theorem MOk.extN (m : MOk K M P H) (e : M[k]? = some (a, .tab q R)) (hu : ∀ b q' R', (b, MO.tab q' R') ∈ M → b = a) (x : ExtN H H1) (t : TabS H1 a q) : ∃ P1, Ex P P1 ∧ MOk K M P1 H1 := by
  have eP : Ex P (moreP P H1 q) := fun b o h => moreP_some h
  obtain ⟨ps', t1, t2, t3⟩ := t
  refine ⟨moreP P H1 q, eP, fun b o h => ?_, m.nd, fun b u hb => ?_, fun b ps h => ?_⟩
  · rcases moreP_or h with h3 | ⟨e3, h3⟩
    · exact x b o (m.ex _ _ h3) fun ps z => m.nt b ps (z ▸ h3)
    · rw [e3]
      exact h3
  · obtain ⟨h1, h2⟩ := m.at_ b u hb
    cases u with
    | lst ds =>
      obtain ⟨xs, h3, h4⟩ := h2
      have h5 := x b _ h3 (fun ps z => by cases z)
      exact ⟨moreP_none h1 (fun z => by rw [h5] at z; exact code_lst (Option.some.inj z)), xs, h5, h4.mono eP⟩
    | ins C fs =>
      obtain ⟨dx, xs, h3, h4⟩ := h2
      have h5 := x b _ h3 (fun ps z => by cases z)
      exact ⟨moreP_none h1 (fun z => by rw [h5] at z; exact code_ins (Option.some.inj z)), dx, xs, h5, h4.mono eP⟩
    | tab q' R2 =>
      have hba := hu b q' R2 hb
      subst hba
      have hq : q' = q ∧ R2 = R := by
        have hm := List.mem_of_getElem? e
        have hnd := m.nd
        obtain ⟨i, hi⟩ := List.getElem?_of_mem hb
        obtain ⟨j, hj⟩ := List.getElem?_of_mem hm
        have a1 : (M.map (·.1))[i]? = some b := by rw [List.getElem?_map, hi]; rfl
        have a2 : (M.map (·.1))[j]? = some b := by rw [List.getElem?_map, hj]; rfl
        obtain ⟨b1, c1⟩ := List.getElem?_eq_some_iff.mp a1
        obtain ⟨b2, c2⟩ := List.getElem?_eq_some_iff.mp a2
        have hij := (List.getElem_inj hnd).mp (c1.trans c2.symm)
        subst hij
        rw [hi] at hj
        cases hj
        exact ⟨rfl, rfl⟩
      obtain ⟨rfl, rfl⟩ := hq
      obtain ⟨eR, ps, h3, _⟩ := h2
      refine ⟨moreP_none h1 (fun z => by rw [t1] at z; exact codeO_ne _ (Option.some.inj z).symm), eR.trans eP, ps', t1, t2, fun pos cv hc => ?_⟩
      obtain ⟨c, e1, e2⟩ := t3 pos cv hc
      refine ⟨c, e1, ?_⟩
      cases hp : P c with
      | none => exact moreP_code hp e2
      | some o =>
        have h6 := m.ex _ _ hp
        have h7 := x c o h6 fun ps z => m.nt c ps (z ▸ hp)
        rw [e2] at h7
        rw [moreP_some hp, ← Option.some.inj h7]
  · rcases moreP_or h with h3 | ⟨h3, _⟩
    · exact m.nt _ _ h3
    · exact codeO_ne _ h3.symm
end
/-- the lambda's own promise, from a memory M: value by Φb, error by Ξ -/
def LamT (K : PySem.W.Frag) (P : Hp) (M : Mem) (Φb : VP) (Ξ : XP) (tl : XK → Hp → VK → Prop) : Prop :=
  ∀ (P1 H1 : Hp) (E : XK) (Q : VK), Ex P P1 → MOk K M P1 H1 → (∀ v H', Fin K P1 Φb v H' → Q v H') → (∀ c d H', FinX K P1 Ξ c d H' → E c d H') → tl E H1 Q
/-- B: of Φ, what the body's value and its error must bring -/
def TTd (K : PySem.W.Frag) (Bv : VP → VP) (Be : VP → XP) : (XK → Hp → VK → Prop) → Hp → VK → Prop := fun tl H Q =>
  ∃ (P : Hp) (M : Mem) (k : Nat) (tb : Addr) (q : Str) (R : Hp) (Φ : VP), MOk K M P H ∧ M[k]? = some (tb, .tab q R) ∧ LamT K P M (Bv Φ) (Be Φ) tl ∧ ∀ v H', Fin K P Φ v H' → Q v H'
theorem tk_len {X : Cx} {P : Hp} {Ξ : XP} (tk : Takes X (WXP X P Ξ)) : Takes X (fun c d _ H => FinX X.K P Ξ c d H) := fun u s' ⟨a, B, sI, pins, σ, H, cls, d, e, I, nb, up, sky, na, os, ag, w⟩ =>
  tk u s' ⟨a, B, sI, pins, σ, H, cls, d, e, I, nb, up, sky, na, os, ag, I.len, w⟩
/-- how the walk of the def's body is told of the call of what it got -/
def ActD (Y : Cx) (M : Mem) (a : Str) (f : Addr) (Φb : VP) (Ξ : XP) : Prop := ∀ (pn : List (Addr × Obj)) (xe : Value → Shared → Prop) (Γ : Sl) (p1 p2 : Pos), Γ[0]? = some (some (.adr f)) → WEx (Y.tr pn xe) Γ M (.Call (.Name a p1) [] [] p2) Φb Ξ
theorem gives_of {X : Cx} {Ng : List Str} {x : Str} {sg : Scope} {g : Addr} {cdg : Value} {bg : List Stmt} {a q : Str} {Bv : VP → VP} {Be : VP → XP} (hN : 0 < Ng.length)
    (h : ∀ (f : Addr) (s : Shared) (H : Hp) (M : Mem) (Φ : VP), ActD (cxOf C8.CX0 X.prog X.w X.K X.mg X.base Ng x sg g cdg X.A X.stack s H C8.E0).nox M a f (Bv Φ) (Be Φ) →
      WS (cxOf C8.CX0 X.prog X.w X.K X.mg X.base Ng x sg g cdg X.A X.stack s H C8.E0).nox (startD Ng.length [.adr f]) M bg { nx := fun _ M' => Φ .non M', rt := Φ }) : GivesTo X Ng x sg g cdg bg a q (TTd X.K Bv Be) := by
  intro f c' s H Q tl act hc ⟨P, M, k, tb, qn, R, Φ, m, hk, hl, hq⟩
  obtain ⟨P0, e0, m0, hc0⟩ := m.code hc
  have eR := m.tabR hk
  have m1 := m0.retag hk (R' := P0) (Same.refl P0)
  have hlen : k < M.length := (List.getElem?_eq_some_iff.mp hk).1
  have hk1 : (M.set k (tb, .tab qn P0))[k]? = some (tb, .tab qn P0) := List.getElem?_set_self hlen
  have hA : ActD (cxOf C8.CX0 X.prog X.w X.K X.mg X.base Ng x sg g cdg X.A X.stack s H C8.E0).nox (M.set k (tb, .tab qn P0)) a f (Bv Φ) (Be Φ) := fun pn xe Γ p1 p2 hΓ P1 σ H1 sk m2 tk => by
    have eP : Ex P0 P1 := m2.tabR hk1
    have m3 := m2.retag hk1 (R' := R) (eR.trans (e0.trans eP))
    rw [List.set_set, show M.set k (tb, MO.tab qn R) = M from by
      obtain ⟨_, he⟩ := List.getElem?_eq_some_iff.mp hk
      rw [← he, List.set_getElem_self]] at m3
    obtain ⟨v, h1, h2⟩ := sk.at_ 0 _ hΓ
    cases h2
    exact wpT_of (act (fun c d _ H => FinX X.K P1 (Be Φ) c d H) pn xe (FinX X.K P1 (Be Φ)) p1 p2 (tk_len tk) (fun _ _ _ _ z => z)) ⟨h1, m2.ex _ _ (eP _ _ hc0), hl P1 H1 _ _ (e0.trans eP) m3 (fun _ _ z => z) (fun _ _ _ z => z)⟩
  refine ⟨_, pss_wp, ?_⟩
  have s0 : SOk X.K (startD Ng.length [.adr f]) P0 (L2.start Ng [V.ref f]) := sok_start (.cons .adr .nil)
  exact (h f s H _ Φ hA P0 _ H s0 m1).mono ⟨fun σ' H' ⟨Γ', M', P', z, e, _, m'⟩ => hq _ _ ⟨.non, M', P', z, e0.trans e, m', .non⟩, fun v H' z => hq v H' (z.up e0), fun _ _ ⟨_, _, _, z, _⟩ => z.elim, fun _ _ ⟨_, _, _, z, _⟩ => z.elim⟩
/-- a def of one argument that calls it, by what is known of the module -/
structure HasLam (X : Cx) (x : Str) (Bv : VP → VP) (Be : VP → XP) : Prop where
  ex : ∃ (g : Addr) (pg : Arguments) (bg : List Stmt) (sg : Scope) (dV kV doc pm cdv ct oc : Value) (an od : Option Addr) (osl : Array (Option Value)) (Ng : List Str) (a : Str), X.mg x = some (.ref g) ∧ PySem.W.keepIn X.K (.ref g) = true ∧
    X.K.lookup g = some ⟨oc, od, .func (PySem.W.fnOf x x pg bg sg dV kV doc pm an cdv ct), osl⟩ ∧ PySem.W.codeIn X.K cdv x = true ∧ L2.Binds X.K (PySem.W.fnOf x x pg bg sg dV kV doc pm an cdv ct) [a] [] ∧ FnScope Ng [a] sg ∧ Ng[0]? = some a ∧ Vis sg a ∧
    (a == ("__debug__" : Str)) = false ∧ (a == ("__classdict__" : Str)) = false ∧ GivesTo X Ng x sg g cdv bg a (X.env.qual ++ "<lambda>") (TTd X.K Bv Be)
section
variable {X : Cx} {Γ : Sl} {M : Mem} {Φ : VP} {x : Str} {p lpos pos : Pos} {params : Arguments} {body : Expr} {scope : Scope} {Bv : VP → VP} {Be : VP → XP} {c tb : Addr} {k kk : Nat} {R : Hp}
/-- x(lambda: body) -/
theorem we_lam (F : HasLam X x Bv Be) (kk : Nat) (hM : M[kk]? = some (tb, .tab (X.env.qual ++ "<lambda>") R)) (hu : ∀ b q' R', (b, MO.tab q' R') ∈ M → b = tb) (TB : TabB X.base X.mg c tb) (hcode : X.env.code = .ref c) (hr : Room (k + 2) X.A)
    (h : ∀ (A : Around) (outer : List Env) (s : Shared) (H : Hp) (E : XK) (f c' : Addr), Room k (A.deeper (lamEnv X scope s.heap.objs.size f c')) → WEx (lamCx X A outer s H E scope f c') Γ M body (Bv Φ) (Be Φ))
    (L : lamSB X.env.scope scope = true := by rfl) (hdef : defaultsOf params X.env = ([], []) := by rfl)
    (hbind : ∀ (q : Str) (cl : List (Str × Addr)) (pm cv ctv : Value), bindArgs (PySem.W.kla_fn "<lambda>" q params body scope cl pm cv ctv) ⟨[], []⟩ = pure [] := by intros; rfl)
    (hg : Gl X x := by rfl) (hdb : (x == ("__debug__" : Str)) = false := by decide) : WE X Γ M (.Call (.Name x p) [.Lambda params body scope lpos] [] pos) Φ := fun P σ H s m => by
  obtain ⟨g, pg, bg, sg, dV, kV, doc, pm, cdv, ct, oc, an, od, osl, Ng, a, hm, hk, lk, hcg, hb, Sg, hNg, hva, hd, hcd, hG⟩ := F.ex
  let t : XK → TE := fun E σ H Q => ∀ (A : Around) (outer : List Env) (s0 : Shared) (H0 : Hp) (f c' : Addr), Room k (A.deeper (lamEnv X scope s0.heap.objs.size f c')) → wpT (lamCx X A outer s0 H0 E scope f c') body σ H Q
  refine wpT_of (pe_lamcall (T := [(tb, X.env.qual ++ "<lambda>")]) (t := t) (k := k) (lpos := lpos) hg hm hk lk hcg hb Sg hNg hva hG TB hcode List.mem_cons_self (fun p hp _ => by rw [List.mem_singleton] at hp; rw [hp]) hr (lamS_by L) hdef hbind
    (fun A outer s0 H0 E f c' hr2 => ⟨fun pins s' σ' H' Q I z => z A outer s0 H0 f c' hr2 pins s' I⟩) hdb hd hcd) ?_
  refine ⟨fun p hp => by rw [List.mem_singleton] at hp; rw [hp]; exact m.tabS hM, fun H1 eN T1 => ?_⟩
  obtain ⟨P1, e1, m1⟩ := m.extN hM hu eN (T1 _ List.mem_cons_self)
  refine ⟨P1, M, kk, tb, _, R, Φ, m1, hM, fun P2 H2 E Q e2 m2 hv he A outer s0 H0 f c' hr2 => ?_, fun v H' z => z.up e1⟩
  have tk : Takes (lamCx X A outer s0 H0 E scope f c') (fun cls d _ H => E cls d H) := takes_of rfl rfl rfl rfl
  exact (h A outer s0 H0 E f c' hr2 P2 σ H2 (s.mono (e1.trans e2)) m2 (tk.imp fun _ _ _ _ z => he _ _ _ z.2)).mono hv
end
end Dt
set_option Elab.async false
set_option linter.all false
set_option maxRecDepth 100000
set_option maxHeartbeats 2000000
namespace Dt
open PySem PySem.Spec PyProof.Rows L2 LamX
/-- what is held but for tables -/
def noT (H : Hp) : Hp := fun b => match H b with
  | some (.tbl _) => none
  | o => o
theorem noT_keep {H : Hp} {b : Addr} {o : HO} (h : H b = some o) (hn : ∀ ps, o ≠ .tbl ps) : noT H b = some o := by
  unfold noT
  rw [h]
  cases o with
  | tbl ps => exact (hn ps rfl).elim
  | _ => rfl
theorem noT_of {H : Hp} {b : Addr} {o : HO} (h : noT H b = some o) : H b = some o ∧ ∀ ps, o ≠ .tbl ps := by
  unfold noT at h
  cases e : H b with
  | none => rw [e] at h; cases h
  | some u =>
    rw [e] at h
    cases u with
    | tbl ps => cases h
    | _ =>
      cases h
      exact ⟨rfl, fun ps z => by cases z⟩
theorem noT_ex {H : Hp} : Ex (noT H) H := fun b o h => (noT_of h).1
def lamQ (q : Str) : Str := (envOfC q ((default : Scope)) 0 0 .none).qual ++ "<lambda>"
section
variable {P : Program} {w : World} {K : PySem.W.Frag} {mg : Str → Option Value} {base : Heap} {x qual : Str} {params : Arguments} {body : List Stmt} {scope : Scope} {dvs : List V} {kws : List (Str × V)} {f : Addr} {fd : FuncData}
/-- a def whose code object is told -/
theorem fn_dataT {N ps : List Str} {k : Nat} {S : DS} {c : Addr} (F : FunD K x qual params body scope dvs kws f fd) (Sc : FnScope N ps scope) (hc : fd.code = .ref c) (len : ∀ ds M Φ, S ds M Φ → ds.length = ps.length)
    (hbody : ∀ (cdv : Value) (A : Around) (outer : List Env) (s : Shared) (H : Hp) (E : XK) (ds : List D) (M : Mem) (Φ : VP), cdv = .ref c → Room k (A.deeper (envOfC qual scope s.heap.objs.size f cdv)) → S ds M Φ →
      WS (cxOf CX0 P w K mg base N qual scope f cdv A outer s H E).nox (startD N.length ds) M body { nx := fun _ M' => Φ .non M', rt := Φ }) : FnOk P w K mg base CX0 (k + 1) f fd ps (spOf K S) := by
  obtain ⟨oc, od, dV, kV, doc, pm, an, cdv, ct, osl, rfl, lk, hcd, _, _⟩ := F.ex
  refine ⟨fun vs H Q E h => ?_, fun A outer s H args us vs Q E hr e0 hb r h => ?_⟩
  · obtain ⟨P1, M, ds, Φ, i, m, hs, _⟩ := h
    rw [i.1]
    exact len _ _ _ hs
  · obtain ⟨P1, M, ds, Φ, i, m, hs, hq⟩ := h
    refine run_ofS lk hcd Sc hr e0 hb r (by rw [i.1]; exact len _ _ _ hs) fun hr' => ⟨_, PSs.nox pss_wp, ?_⟩
    exact (hbody cdv A outer s H E ds M Φ hc hr' hs P1 (L2.start N vs) H (sok_start i) m).mono ⟨fun σ' H' ⟨Γ', M', P', q, e, _, m'⟩ => hq _ _ ⟨.non, M', P', q, e, m', .non⟩, fun v H' z => hq v H' z, fun _ _ ⟨_, _, _, z, _⟩ => z.elim, fun _ _ ⟨_, _, _, z, _⟩ => z.elim⟩
end
theorem sql_noT {K : PySem.W.Frag} {H : Hp} {a : Addr} {xs : List V} (h : SqL K H a xs) : SqL K (noT H) a xs := by
  rcases h with (h | ⟨o, h⟩) | h
  · exact .inl (.inl (noT_keep h (fun ps z => by cases z)))
  · exact .inl (.inr ⟨o, noT_keep h (fun ps z => by cases z)⟩)
  · exact .inr h
theorem mok_tab {K : PySem.W.Frag} {H : Hp} {tb : Addr} {q : Str} (h : H tb = some (.tbl #[])) : MOk K [(tb, .tab q emp)] (noT H) H := by
  refine ⟨noT_ex, by simp, fun a o hm => ?_, fun b ps z => (noT_of z).2 ps rfl⟩
  rw [List.mem_singleton] at hm
  cases hm
  refine ⟨by unfold noT; rw [h], ex_emp, #[], h, True.intro, fun pos cv hc => ?_⟩
  have z : codeAmong pos [] = some cv := hc
  simp [codeAmong] at z
theorem walk_ofT {l : PySem.W.OpenLaw} {n k : Nat} {q : Program} {loose : List Str} {XP : (Str → Option Value) → Heap → Prop} {YP : World → Heap → Prop} {d : DefRec} {x : Str}
    (hn : l.most = some n) (hn2 : n ≤ sizeLine) (hdf : d.params.defaults = []) (hr : Room k callerA)
    (F : ∀ (w : World) (mg : Str → Option Value) (fa : Addr) (h : Heap), YP w h → h.Ns mainGlobals mg → mg d.name = some (.ref fa) →
      ∃ (K : PySem.W.Frag) (fd : FuncData) (c tb : Addr) (sp : Sp), K.In h ∧ h.get? tb = some { cls := .none, data := .fields #[] } ∧ K.lookup tb = none ∧ PySem.W.CodeHd h c tb ∧ (∀ (s : Shared) (u : Value), BindsTo s fd ⟨[u], []⟩ [(x, u)]) ∧
        (∀ (H : Hp) (a : Addr) (ns : List Int), ns.length ≤ n → H tb = some (.tbl #[]) → SqL K H a (ns.map V.int) → sp [.ref a] H (fun v _ => v = .bl true) fun _ _ _ => False) ∧
        ∀ base : Heap, K.In base → base.Ns mainGlobals mg → TabB base mg c tb → FnOk l.prog w K mg base CX0 k fa fd [x] sp) :
    PySem.W.WalkO q loose XP YP l.row.toRowW d [] (fun f vs => PySem.call f vs) :=
  Att.attach_call hn hdf fun w s₀ z mg mb fa o pm cd doc a vs ns G Y ho hd hcd hmg hobj hints hlen hg => by
    obtain ⟨K, fd, c, tb, sp, KX, hT, nT, C, hb, hsp, hF⟩ := F w mg fa _ Y G.T.g hmg
    exact law_callTs (CX := CX0) (cs := [(c, tb)]) KX G.T.g G.T.b G.T.builtins G.T.nolimit hg (fun p hp => by rw [List.mem_singleton] at hp; rw [hp]; exact hT) (fun p hp => by rw [List.mem_singleton] at hp; rw [hp]; exact nT) (fun p hp => by rw [List.mem_singleton] at hp; rw [hp]; exact C) G.T.bmain hobj hints
      (Nat.le_trans hlen hn2) hr (fun base h1 h2 h3 => hF base h1 h2 (h3 _ List.mem_cons_self)) hb (fun H hH hS => hsp H a ns hlen (hH _ List.mem_cons_self) hS) fun H e s' z => z
theorem obR_eq {n : Nat} {fa : List He.Fa} {fn fx : List Df} {tf : List He.Defn} {ex : Fg → Bool} (s : PySem.W.SharedT) : obR n fa fn fx tf ex s = (hookR n fa fn fx tf ex).obs s.abs := by
  have e : HandSHeadRun.getT s = s.abs.heap.get? := funext (HandSHeadRun.getT_eq s)
  unfold obR
  rw [e]
  rfl
/-- the law's code object -/
theorem code_of {K : Fg} {qual : Str} {params : Arguments} {body : List Stmt} {scope : Scope} {dvs : List V} {kws : List (Str × V)} {fd : FuncData} {nm x : Str} (F : FunD K nm qual params body scope dvs kws (locG x K) fd) : fd.code = .ref (He.cT K (x, none)).1 := by
  obtain ⟨oc, od, dV, kV, doc, pm, an, cdv, ct, osl, rfl, lk, hcd, _, _⟩ := F.ex
  obtain ⟨c, rfl⟩ := He.codeIn_ref hcd
  exact congrArg Value.ref (He.codeOf_eq (p := (x, none)) lk rfl).symm
/-- a def that a lambda is handed to, by data -/
theorem hasLam {X : Cx} {K : Fg} {mg : Str → Option Value} {x a : Str} {params : Arguments} {body : List Stmt} {scope : Scope} {fd : FuncData} {N : List Str} {Bv : VP → VP} {Be : VP → XP} (hK : X.K = K) (hmg : X.mg = mg) (G : mg x = some (.ref (locG x K))) (F : FunD K x x params body scope [] [] (locG x K) fd) (b : Binds K fd [a] []) (Sc : FnScope N [a] scope)
    (hN : N[0]? = some a) (hv : Vis scope a) (h1 : (a == ("__debug__" : Str)) = false) (h2 : (a == ("__classdict__" : Str)) = false)
    (hG : ∀ cdv : Value, GivesTo X N x scope (locG x K) cdv body a (X.env.qual ++ "<lambda>") (TTd X.K Bv Be)) : HasLam X x Bv Be := by
  subst hK hmg
  obtain ⟨oc, od, dV, kV, doc, pm, an, cdv, ct, osl, rfl, lk, hcd, _, _⟩ := F.ex
  exact ⟨_, params, body, scope, dV, kV, doc, pm, cdv, ct, oc, an, od, osl, N, a, G, F.kp, lk, hcd, b, Sc, hN, hv, h1, h2, hG cdv⟩
end Dt
set_option Elab.async false
set_option linter.all false
set_option maxRecDepth 100000
set_option maxHeartbeats 2000000
namespace Dt
open PySem PySem.Spec PyProof.Rows L2
section
variable {X : Cx} {Γ : Sl} {M : Mem} {Φ : VP} {elt a b : Expr} {elts ifs : List Expr} {kk : Nat} {scope : Scope} {own : List (Str × Nat)} {p pos pos2 tpos : Pos} {g : TG} {F : Sl → D → Sl} {fits : D → Prop}
theorem we_mapZ (hN : X.N.Nodup) (tg : TgOk X.K (own.map (·.2)) g F fits) (h : WA X Γ M [a, b] fun ds M1 => ∃ (α : Type) (as : List α) (fx fy : α → D) (p : α → Bool) (gd : α → D), ds = [.lst (as.map fx), .lst (as.map fy)] ∧ CompG X Γ scope own F fits ifs elt as (fun z => .tup [fx z, fy z]) p gd M1 ∧ ∀ l, Φ (.adr l) ((l, .lst ((as.filter p).map gd)) :: M1))
    (ok : BlkOk X.N X.env.scope scope own) (hg : ∀ (s : Shared) (H : Hp) (C : Addr) (cl : List (Str × Addr)) (fp : List Addr), PG (X.blk s H scope (compEnvC scope cl C X.env) fp) (.Tuple elts kk tpos) g) (hm : X.mg "zip" = none) (hgl : Gl X "zip" := by rfl) (hc : X.calm = true := by rfl)
    (hst : starEach [a, b] X.env = (false, eval a X.env) :: starEach [b] X.env := by rfl) (hpl : (backTo pos2 (starEach [b] X.env)).any (·.1) = false := by rfl) (hs : ∀ x, foldedSetIterable (.Call (.Name "zip" p) [a, b] [] pos2) X.env x = pure x := by intro _; rfl) :
    WE X Γ M (.ListComp elt [⟨.Tuple elts kk tpos, .Call (.Name "zip" p) [a, b] [] pos2, ifs, 0⟩] scope pos) Φ := fun P σ H s m =>
  wpT_of (pe_lc (tt := tsB X scope ifs) (te := teB X scope elt) hc hN (RZ.pi_zipA hgl hm pa_wp hst hpl) ok hg (fun s0 H0 C cl fp => ⟨fun pins sh σ' H' Q I q => q s0 H0 C cl fp pins sh I⟩) (fun s0 H0 C cl fp => ⟨fun pins sh σ' H' Q I q => q s0 H0 C cl fp pins sh I⟩) hs)
    ((h P σ H s m).mono fun vs H1 ⟨ds, M1, P1, ⟨α, as, fx, fy, p, gd, hd, hC, q⟩, e1, m1, i1⟩ => by
      subst hd
      obtain ⟨v, v2, rfl, hv, hv2⟩ := i1.un2
      cases hv with
      | @lst l1 vs1 _ hq hl hi =>
        cases hv2 with
        | @lst l2 vs2 _ hq2 hl2 hi2 =>
          have n1 : vs1.length = as.length := by rw [hl, List.length_map]
          have n2 : vs2.length = as.length := by rw [hl2, List.length_map]
          refine ⟨l1, l2, vs1, vs2, rfl, .inl ⟨m1.ex.seq hq, m1.ex.seq hq2, fun l hn => lc_it (n := as.length) (walk_zip (xs := vs1) (ys := vs2) (by rw [n1, n2]; omega)) (fun i => LcInv X.K P1 l (fun out M' => out = ((as.take i).filter p).map gd ∧ M' = M1)) ⟨[], M1, P1, ⟨rfl, rfl⟩, Same.refl P1, m1.own hn ⟨[], upd_same, .nil⟩⟩
            (fun i H' _ ⟨out, M', P', jj, e', m'⟩ => ⟨m'.ex.seq (e'.seq hq), m'.ex.seq (e'.seq hq2)⟩) ?_ ?_⟩⟩
          · rintro i x0 H' H'' hlt ⟨out, M', P', jj, e', m'⟩ ⟨T, x1, y1, rfl, hT, rfl, hx, hy⟩
            obtain ⟨dx, hdx, ix⟩ := IsDs.getV (K := X.K) (P := P1) ⟨hl, hi⟩ hx
            obtain ⟨dy, hdy, iy⟩ := IsDs.getV (K := X.K) (P := P1) ⟨hl2, hi2⟩ hy
            obtain ⟨z, hz, rfl⟩ := getMap hdx
            obtain ⟨z2, hz2, rfl⟩ := getMap hdy
            rw [hz] at hz2
            cases hz2
            obtain ⟨hf, ht⟩ := comp_step hC i (D.tup [fx z, fy z]) l out M' (by rw [List.getElem?_map, hz]; rfl) jj
            obtain ⟨m2, e2⟩ := m'.push (o := .tup [x1, y1]) hT
            exact tg (upd P' T (.tup [x1, y1])) _ _ _ (D.tup [fx z, fy z]) (.ref T) _ m2.ex (sok_wipe (s.mono ((e1.trans e').trans e2)) (own.map (·.2))) (.tup (SqT.of upd_same) rfl (IsDs.cons (ix.mono (e'.trans e2)) (.cons (iy.mono (e'.trans e2)) .nil)).2) hf fun σ2 s2 w2 => ⟨by rw [w2, wipe_wipe], lc_turn ht (e'.trans e2) s2 m2⟩
          · rintro H' ⟨out, M', P', ⟨rfl, rfl⟩, e', m'⟩
            rw [List.take_length] at m'
            exact ⟨_, _, P', q l, e1.trans e', m', .adr⟩)
end
end Dt
set_option Elab.async false
set_option linter.all false
set_option maxRecDepth 100000
set_option maxHeartbeats 0
namespace Sl57
open PySem PySem.Spec PyProof.Rows L2 Dt
theorem ex_0 {K : Fg} (h : ex K = true) : (He.tupB K "ROW_WORDS" [.str "start", .str "go", .str "if", .str "else", .str "while", .str "see", .str "stop", .str "end", .str "never"]) = true := by
  unfold ex at h
  simp only [Bool.and_eq_true] at h
  simp only [h]
theorem ex_1 {K : Fg} (h : ex K = true) : (He.tupB K "FAULTS" [.str "astray", .str "barred", .str "endless", .str "halted"]) = true := by
  unfold ex at h
  simp only [Bool.and_eq_true] at h
  simp only [h]
theorem ex_2 {K : Fg} (h : ex K = true) : (isB K "Go") = true := by
  unfold ex at h
  simp only [Bool.and_eq_true] at h
  simp only [h]
theorem ex_3 {K : Fg} (h : ex K = true) : (decide (PySem.W.kitOne K (.ref (He.ga K "Go")) (.ref (He.ga K "Row")) = some true)) = true := by
  unfold ex at h
  simp only [Bool.and_eq_true] at h
  simp only [h]
theorem ex_4 {K : Fg} (h : ex K = true) : (isB K "Stop") = true := by
  unfold ex at h
  simp only [Bool.and_eq_true] at h
  simp only [h]
theorem ex_5 {K : Fg} (h : ex K = true) : (decide (PySem.W.kitOne K (.ref (He.ga K "Stop")) (.ref (He.ga K "Row")) = some true)) = true := by
  unfold ex at h
  simp only [Bool.and_eq_true] at h
  simp only [h]
theorem ex_6 {K : Fg} (h : ex K = true) : (isB K "While") = true := by
  unfold ex at h
  simp only [Bool.and_eq_true] at h
  simp only [h]
theorem ex_7 {K : Fg} (h : ex K = true) : (decide (PySem.W.kitOne K (.ref (He.ga K "While")) (.ref (He.ga K "Row")) = some true)) = true := by
  unfold ex at h
  simp only [Bool.and_eq_true] at h
  simp only [h]
theorem ex_8 {K : Fg} (h : ex K = true) : (isB K "If") = true := by
  unfold ex at h
  simp only [Bool.and_eq_true] at h
  simp only [h]
theorem ex_9 {K : Fg} (h : ex K = true) : (decide (PySem.W.kitOne K (.ref (He.ga K "If")) (.ref (He.ga K "Row")) = some true)) = true := by
  unfold ex at h
  simp only [Bool.and_eq_true] at h
  simp only [h]
theorem ex_10 {K : Fg} (h : ex K = true) : (isB K "See") = true := by
  unfold ex at h
  simp only [Bool.and_eq_true] at h
  simp only [h]
theorem ex_11 {K : Fg} (h : ex K = true) : (decide (PySem.W.kitOne K (.ref (He.ga K "See")) (.ref (He.ga K "Row")) = some true)) = true := by
  unfold ex at h
  simp only [Bool.and_eq_true] at h
  simp only [h]
theorem ex_12 {K : Fg} (h : ex K = true) : (He.tupB K "WAYS" [.str "east", .str "north", .str "west", .str "south"]) = true := by
  unfold ex at h
  simp only [Bool.and_eq_true] at h
  simp only [h]
theorem ex_13 {K : Fg} (h : ex K = true) : (supB Pg.main.file K (He.ga K "InvalidRow") "word" "InvalidRow.__init__") = true := by
  unfold ex at h
  simp only [Bool.and_eq_true] at h
  simp only [h]
theorem ex_14 {K : Fg} (h : ex K = true) : (nilB K (He.dflAt ("If", some "__init__") 0 K)) = true := by
  unfold ex at h
  simp only [Bool.and_eq_true] at h
  simp only [h]
theorem ex_15 {K : Fg} (h : ex K = true) : (nilB K (He.dflAt ("See", some "__init__") 0 K)) = true := by
  unfold ex at h
  simp only [Bool.and_eq_true] at h
  simp only [h]
theorem ex_16 {K : Fg} (h : ex K = true) : (decide (PySem.W.kitOne K (.type "str") (.ref (He.ga K "Row")) = some false)) = true := by
  unfold ex at h
  simp only [Bool.and_eq_true] at h
  simp only [h]
theorem ex_17 {K : Fg} (h : ex K = true) : (decide (PySem.W.kitOne K (.type "NoneType") (.ref (He.ga K "Row")) = some false)) = true := by
  unfold ex at h
  simp only [Bool.and_eq_true] at h
  simp only [h]
theorem ex_18 {K : Fg} (h : ex K = true) : (decide (PySem.W.kitOne K (.type "list") (.ref (He.ga K "Row")) = some false)) = true := by
  unfold ex at h
  simp only [Bool.and_eq_true] at h
  simp only [h]
theorem ex_19 {K : Fg} (h : ex K = true) : (decide (PySem.W.kitOne K (.ref (He.ga K "Go")) (.type "list") = some false)) = true := by
  unfold ex at h
  simp only [Bool.and_eq_true] at h
  simp only [h]
theorem ex_20 {K : Fg} (h : ex K = true) : (decide (PySem.W.kitOne K (.ref (He.ga K "Go")) (.type "tuple") = some false)) = true := by
  unfold ex at h
  simp only [Bool.and_eq_true] at h
  simp only [h]
theorem ex_21 {K : Fg} (h : ex K = true) : (decide (PySem.W.kitOne K (.ref (He.ga K "Go")) (.ref (He.ga K "Go")) = some true)) = true := by
  unfold ex at h
  simp only [Bool.and_eq_true] at h
  simp only [h]
theorem ex_22 {K : Fg} (h : ex K = true) : (decide (PySem.W.kitOne K (.ref (He.ga K "Stop")) (.ref (He.ga K "Go")) = some false)) = true := by
  unfold ex at h
  simp only [Bool.and_eq_true] at h
  simp only [h]
theorem ex_23 {K : Fg} (h : ex K = true) : (decide (PySem.W.kitOne K (.ref (He.ga K "If")) (.ref (He.ga K "Go")) = some false)) = true := by
  unfold ex at h
  simp only [Bool.and_eq_true] at h
  simp only [h]
theorem ex_24 {K : Fg} (h : ex K = true) : (decide (PySem.W.kitOne K (.ref (He.ga K "InvalidRow")) (.ref (He.ga K "SightError")) = some true)) = true := by
  unfold ex at h
  simp only [Bool.and_eq_true] at h
  simp only [h]
theorem ex_25 {K : Fg} (h : ex K = true) : (decide (PySem.W.kitOne K (.ref (He.ga K "InvalidRow")) (.ref (He.ga K "InvalidPlan")) = some false)) = true := by
  unfold ex at h
  simp only [Bool.and_eq_true] at h
  simp only [h]
theorem ex_26 {K : Fg} (h : ex K = true) : (xcB K (He.ga K "InvalidRow") "word") = true := by
  unfold ex at h
  simp only [Bool.and_eq_true] at h
  simp only [h]
theorem ob_eq (s : PySem.W.SharedT) : ob s = hk.obs s.abs := obR_eq s
theorem hPt : (Pg.main.scope.names.lookup ("super" : Str)).isSome = false := by decide +kernel
end Sl57
set_option Elab.async false
set_option linter.all false
set_option maxRecDepth 100000
set_option maxHeartbeats 1000000
namespace Sl57
open PySem PySem.Spec PyProof.Rows L2 Dt
def top (i : Nat) : Stmt := PySem.Challenge.pw_slipsights_k12_rows_refused.main.body.getD i (.Pass ⟨0, 0, 0, 0⟩)
set_option hygiene false
local macro_rules | `(tactic| walk_at "op") => `(tactic| (first
  | refine od_add ?_ | refine od_sub ?_ | refine od_lt ?_ | refine od_le ?_ | refine od_gt ?_ | refine od_ge ?_ | refine od_eq ?_ | refine od_ne ?_ | refine od_is ?_ | refine od_isn ?_
  | refine od_eqS ?_ | refine od_neS ?_ | refine od_eqB ?_ | refine od_neB ?_))
local macro_rules | `(tactic| walk_at "dead") => `(tactic| (first
  | (cases hb; done)
  | (exact absurd (show false = true from hb) (by decide))
  | (exact absurd (show true = false from hb) (by decide))
  | (exact absurd hb (by decide))
  | (exfalso; simp only [decide_eq_true_eq, decide_eq_false_iff_not, Bool.not_eq_true', Bool.not_eq_false'] at hb; omega)))
local macro_rules | `(tactic| walk_at "tidy") => `(tactic| (try simp only [decide_eq_true_eq, decide_eq_false_iff_not, Bool.not_eq_true', Bool.not_eq_false'] at hb))
local macro_rules | `(tactic| walk_at "truth") => `(tactic| (first | refine tr_bl ?_ | refine tr_lst ?_ | refine tr_tup ?_ | refine tr_non ?_ | refine tr_int ?_))
local macro_rules | `(tactic| walk_at "ix") => `(tactic| (first
  | refine ix_tup (j := 0) rfl rfl ?_ | refine ix_tup (j := 1) rfl rfl ?_ | refine ix_tup (j := 2) rfl rfl ?_
  | refine ix_lst (j := 0) rfl rfl ?_ | refine ix_lst (j := 1) rfl rfl ?_ | refine ix_lst (j := 2) rfl rfl ?_
  | refine ix_own (k := 0) (j := 0) rfl rfl rfl ?_
  | refine ix_own (k := 0) (j := 1) rfl rfl rfl ?_
  | refine ix_own (k := 0) (j := 2) rfl rfl rfl ?_
  | refine ix_own (k := 1) (j := 0) rfl rfl rfl ?_
  | refine ix_own (k := 1) (j := 1) rfl rfl rfl ?_
  | refine ix_own (k := 1) (j := 2) rfl rfl rfl ?_
  | refine ix_own (k := 2) (j := 0) rfl rfl rfl ?_
  | refine ix_own (k := 2) (j := 1) rfl rfl rfl ?_
  | refine ix_own (k := 2) (j := 2) rfl rfl rfl ?_
  | refine ix_own (k := 3) (j := 0) rfl rfl rfl ?_
  | refine ix_own (k := 3) (j := 1) rfl rfl rfl ?_
  | refine ix_own (k := 3) (j := 2) rfl rfl rfl ?_
  | refine ix_own (k := 4) (j := 0) rfl rfl rfl ?_
  | refine ix_own (k := 4) (j := 1) rfl rfl rfl ?_
  | refine ix_own (k := 4) (j := 2) rfl rfl rfl ?_
  | refine ix_own (k := 5) (j := 0) rfl rfl rfl ?_
  | refine ix_own (k := 5) (j := 1) rfl rfl rfl ?_
  | refine ix_own (k := 5) (j := 2) rfl rfl rfl ?_
  | refine ix_own (k := 6) (j := 0) rfl rfl rfl ?_
  | refine ix_own (k := 6) (j := 1) rfl rfl rfl ?_
  | refine ix_own (k := 6) (j := 2) rfl rfl rfl ?_
  | refine ix_own (k := 7) (j := 0) rfl rfl rfl ?_
  | refine ix_own (k := 7) (j := 1) rfl rfl rfl ?_
  | refine ix_own (k := 7) (j := 2) rfl rfl rfl ?_
  | refine ix_own (k := 8) (j := 0) rfl rfl rfl ?_
  | refine ix_own (k := 8) (j := 1) rfl rfl rfl ?_
  | refine ix_own (k := 8) (j := 2) rfl rfl rfl ?_
  | refine ix_own (k := 9) (j := 0) rfl rfl rfl ?_
  | refine ix_own (k := 9) (j := 1) rfl rfl rfl ?_
  | refine ix_own (k := 9) (j := 2) rfl rfl rfl ?_
  | refine ix_own (k := 10) (j := 0) rfl rfl rfl ?_
  | refine ix_own (k := 10) (j := 1) rfl rfl rfl ?_
  | refine ix_own (k := 10) (j := 2) rfl rfl rfl ?_
  | refine ix_own (k := 11) (j := 0) rfl rfl rfl ?_
  | refine ix_own (k := 11) (j := 1) rfl rfl rfl ?_
  | refine ix_own (k := 11) (j := 2) rfl rfl rfl ?_
  | refine ix_own (k := 12) (j := 0) rfl rfl rfl ?_
  | refine ix_own (k := 12) (j := 1) rfl rfl rfl ?_
  | refine ix_own (k := 12) (j := 2) rfl rfl rfl ?_
  | refine ix_own (k := 13) (j := 0) rfl rfl rfl ?_
  | refine ix_own (k := 13) (j := 1) rfl rfl rfl ?_
  | refine ix_own (k := 13) (j := 2) rfl rfl rfl ?_))
local macro_rules | `(tactic| walk_at "seti") => `(tactic| (first
  | refine ⟨0, 0, _, _, _, rfl, rfl, rfl, rfl, of_decide_eq_true rfl, ?_⟩
  | refine ⟨0, 1, _, _, _, rfl, rfl, rfl, rfl, of_decide_eq_true rfl, ?_⟩
  | refine ⟨0, 2, _, _, _, rfl, rfl, rfl, rfl, of_decide_eq_true rfl, ?_⟩
  | refine ⟨1, 0, _, _, _, rfl, rfl, rfl, rfl, of_decide_eq_true rfl, ?_⟩
  | refine ⟨1, 1, _, _, _, rfl, rfl, rfl, rfl, of_decide_eq_true rfl, ?_⟩
  | refine ⟨1, 2, _, _, _, rfl, rfl, rfl, rfl, of_decide_eq_true rfl, ?_⟩
  | refine ⟨2, 0, _, _, _, rfl, rfl, rfl, rfl, of_decide_eq_true rfl, ?_⟩
  | refine ⟨2, 1, _, _, _, rfl, rfl, rfl, rfl, of_decide_eq_true rfl, ?_⟩
  | refine ⟨2, 2, _, _, _, rfl, rfl, rfl, rfl, of_decide_eq_true rfl, ?_⟩
  | refine ⟨3, 0, _, _, _, rfl, rfl, rfl, rfl, of_decide_eq_true rfl, ?_⟩
  | refine ⟨3, 1, _, _, _, rfl, rfl, rfl, rfl, of_decide_eq_true rfl, ?_⟩
  | refine ⟨3, 2, _, _, _, rfl, rfl, rfl, rfl, of_decide_eq_true rfl, ?_⟩
  | refine ⟨4, 0, _, _, _, rfl, rfl, rfl, rfl, of_decide_eq_true rfl, ?_⟩
  | refine ⟨4, 1, _, _, _, rfl, rfl, rfl, rfl, of_decide_eq_true rfl, ?_⟩
  | refine ⟨4, 2, _, _, _, rfl, rfl, rfl, rfl, of_decide_eq_true rfl, ?_⟩
  | refine ⟨5, 0, _, _, _, rfl, rfl, rfl, rfl, of_decide_eq_true rfl, ?_⟩
  | refine ⟨5, 1, _, _, _, rfl, rfl, rfl, rfl, of_decide_eq_true rfl, ?_⟩
  | refine ⟨5, 2, _, _, _, rfl, rfl, rfl, rfl, of_decide_eq_true rfl, ?_⟩
  | refine ⟨6, 0, _, _, _, rfl, rfl, rfl, rfl, of_decide_eq_true rfl, ?_⟩
  | refine ⟨6, 1, _, _, _, rfl, rfl, rfl, rfl, of_decide_eq_true rfl, ?_⟩
  | refine ⟨6, 2, _, _, _, rfl, rfl, rfl, rfl, of_decide_eq_true rfl, ?_⟩
  | refine ⟨7, 0, _, _, _, rfl, rfl, rfl, rfl, of_decide_eq_true rfl, ?_⟩
  | refine ⟨7, 1, _, _, _, rfl, rfl, rfl, rfl, of_decide_eq_true rfl, ?_⟩
  | refine ⟨7, 2, _, _, _, rfl, rfl, rfl, rfl, of_decide_eq_true rfl, ?_⟩
  | refine ⟨8, 0, _, _, _, rfl, rfl, rfl, rfl, of_decide_eq_true rfl, ?_⟩
  | refine ⟨8, 1, _, _, _, rfl, rfl, rfl, rfl, of_decide_eq_true rfl, ?_⟩
  | refine ⟨8, 2, _, _, _, rfl, rfl, rfl, rfl, of_decide_eq_true rfl, ?_⟩
  | refine ⟨9, 0, _, _, _, rfl, rfl, rfl, rfl, of_decide_eq_true rfl, ?_⟩
  | refine ⟨9, 1, _, _, _, rfl, rfl, rfl, rfl, of_decide_eq_true rfl, ?_⟩
  | refine ⟨9, 2, _, _, _, rfl, rfl, rfl, rfl, of_decide_eq_true rfl, ?_⟩
  | refine ⟨10, 0, _, _, _, rfl, rfl, rfl, rfl, of_decide_eq_true rfl, ?_⟩
  | refine ⟨10, 1, _, _, _, rfl, rfl, rfl, rfl, of_decide_eq_true rfl, ?_⟩
  | refine ⟨10, 2, _, _, _, rfl, rfl, rfl, rfl, of_decide_eq_true rfl, ?_⟩
  | refine ⟨11, 0, _, _, _, rfl, rfl, rfl, rfl, of_decide_eq_true rfl, ?_⟩
  | refine ⟨11, 1, _, _, _, rfl, rfl, rfl, rfl, of_decide_eq_true rfl, ?_⟩
  | refine ⟨11, 2, _, _, _, rfl, rfl, rfl, rfl, of_decide_eq_true rfl, ?_⟩
  | refine ⟨12, 0, _, _, _, rfl, rfl, rfl, rfl, of_decide_eq_true rfl, ?_⟩
  | refine ⟨12, 1, _, _, _, rfl, rfl, rfl, rfl, of_decide_eq_true rfl, ?_⟩
  | refine ⟨12, 2, _, _, _, rfl, rfl, rfl, rfl, of_decide_eq_true rfl, ?_⟩
  | refine ⟨13, 0, _, _, _, rfl, rfl, rfl, rfl, of_decide_eq_true rfl, ?_⟩
  | refine ⟨13, 1, _, _, _, rfl, rfl, rfl, rfl, of_decide_eq_true rfl, ?_⟩
  | refine ⟨13, 2, _, _, _, rfl, rfl, rfl, rfl, of_decide_eq_true rfl, ?_⟩))
local macro_rules | `(tactic| walk_at "lst") => `(tactic| (first
  | refine cd_list (.inr (.inr ⟨0, _, rfl, rfl⟩)) ?_
  | refine cd_list (.inr (.inr ⟨1, _, rfl, rfl⟩)) ?_
  | refine cd_list (.inr (.inr ⟨2, _, rfl, rfl⟩)) ?_
  | refine cd_list (.inr (.inr ⟨3, _, rfl, rfl⟩)) ?_
  | refine cd_list (.inr (.inr ⟨4, _, rfl, rfl⟩)) ?_
  | refine cd_list (.inr (.inr ⟨5, _, rfl, rfl⟩)) ?_
  | refine cd_list (.inr (.inr ⟨6, _, rfl, rfl⟩)) ?_
  | refine cd_list (.inr (.inr ⟨7, _, rfl, rfl⟩)) ?_
  | refine cd_list (.inr (.inr ⟨8, _, rfl, rfl⟩)) ?_
  | refine cd_list (.inr (.inr ⟨9, _, rfl, rfl⟩)) ?_
  | refine cd_list (.inr (.inr ⟨10, _, rfl, rfl⟩)) ?_
  | refine cd_list (.inr (.inr ⟨11, _, rfl, rfl⟩)) ?_
  | refine cd_list (.inr (.inr ⟨12, _, rfl, rfl⟩)) ?_
  | refine cd_list (.inr (.inr ⟨13, _, rfl, rfl⟩)) ?_))
local macro_rules | `(tactic| walk_at "isi") => `(tactic| (first | refine cd_isi (k := true) rfl (by decide +kernel) ?_ | refine cd_isi (k := false) rfl (by decide +kernel) ?_))
local macro_rules | `(tactic| walk_at "size") => `(tactic| (first
  | exact (show 0 ≤ sizeLine by decide) | exact (show 1 ≤ sizeLine by decide) | exact (show 2 ≤ sizeLine by decide) | exact (show 3 ≤ sizeLine by decide) | exact (show 4 ≤ sizeLine by decide) | exact (show 5 ≤ sizeLine by decide) | exact (show 6 ≤ sizeLine by decide) | exact (of_decide_eq_true rfl) | exact (Nat.le_of_ble_eq_true rfl)))
section
variable {P : Program} {w : World} {K : PySem.W.Frag} {mg : Str → Option Value} {base : Heap}
theorem mulB {i j : Int} (hi : -(2 ^ 204) < i ∧ i < 2 ^ 204) (hj : -(2 ^ 204) < j ∧ j < 2 ^ 204) : CMulW i j := wide_mul (a := 204) (b := 204) (by omega) (by omega) (by decide) (by decide) (by decide)
def S_deal : DS := fun ds M Φ => ∃ ns : List Int, ds = [.lst (ns.map .int)] ∧ ns.length ≤ 63 ∧ ∀ l l2 gs m, Good gs m → Φ (.adr l) ((l, .lst [.adr l2, .int m]) :: (l2, .lst (gs.map D.int)) :: M)
def S_draw : DS := fun ds M Φ => ∃ (l l2 : Addr) (k : Nat) (many : Int), ds = [.adr l, .int many] ∧ DealAt M k l l2 ∧ 0 < many ∧ many < 2 ^ 200 ∧ ∀ r gs m, 0 ≤ r → r < many → Good gs m → Φ (.int r) (put2 M k l l2 gs m)
def S_pick : DS := fun ds M Φ => ∃ (l l2 : Addr) (k : Nat) (xs : List D), (ds = [.adr l, .lst xs] ∨ ds = [.adr l, .tup xs]) ∧ DealAt M k l l2 ∧ 0 < xs.length ∧ xs.length < 2 ^ 40 ∧ ∀ x gs m, x ∈ xs → Good gs m → Φ x (put2 M k l l2 gs m)
def absI (i : Int) : Int := if i < 0 then -i else i
theorem absI_nn (i : Int) : 0 ≤ absI i := by
  unfold absI
  split <;> omega
theorem deal_good {ns : List Int} {m : Int} (hl : ns.length ≤ 63) (h0 : 0 ≤ m) (h1 : m < 2 ^ 31) (p : Int → Bool) (lo hi : Option Int) : Good (((cutL ns lo hi).map absI).filter p).reverse m := by
  refine ⟨fun g hg => ?_, ?_, h0, h1⟩
  · obtain ⟨x, _, e⟩ := List.mem_map.mp (List.mem_filter.mp (List.mem_reverse.mp hg)).1
    rw [← e]
    exact absI_nn x
  · rw [List.length_reverse]
    have a := List.length_filter_le p ((cutL ns lo hi).map absI)
    have b := cut_len ns lo hi
    rw [List.length_map] at a
    omega
theorem getIs {is : List Int} {i : Nat} {y : D} (h : (is.map D.int)[i]? = some y) : ∃ c, is[i]? = some c ∧ y = .int c := getMap h
theorem pick_in {xs : List D} {r : Int} (h0 : 0 ≤ r) (h1 : r < (xs.length : Int)) : ∃ (j : Nat) (x : D), r = (j : Int) ∧ xs[j]? = some x ∧ x ∈ xs := by
  have hj : r.toNat < xs.length := by omega
  exact ⟨r.toNat, xs[r.toNat], by omega, List.getElem?_eq_getElem hj, List.getElem_mem hj⟩
abbrev s_Ldeal : Stmt := top 28
theorem sc_Ldeal : FnScope ["_law_script", "_law_cells", "_law_mixed", "_law_cell"] ["_law_script"] (defScope s_Ldeal) := ⟨rfl, rfl, rfl, by decide +kernel, rfl, by decide +kernel, by decide +kernel⟩
theorem ok_Ldeal {f : Addr} {fd : FuncData} (F : FunD K "_law_deal" "_law_deal" (defArgs s_Ldeal) (defBody s_Ldeal) (defScope s_Ldeal) [] [] f fd) (B : Bf mg) : FnOk P w K mg base CX0 1 f fd ["_law_script"] (spOf K S_deal) := by
  refine fn_data (k := 0) F sc_Ldeal (fun ds M Φ h => ?_) (fun cdv A outer s H E ds M Φ hr h => ?_)
  · obtain ⟨ns, rfl, hlen, q⟩ := h
    all_goals rfl
  · obtain ⟨ns, rfl, hlen, q⟩ := h
    refine ws_par 1 2 sc_Ldeal.nd ?_
    refine wa_cons ?_
    refine lcMapL (own := [("_law_cell", 3)]) (j := 3) sc_Ldeal.nd ?_ (blkOk_by (N := ["_law_script", "_law_cells", "_law_mixed", "_law_cell"]) (sc := defScope s_Ldeal) (by decide +kernel)) (fun _ _ _ _ _ => pg_name (i := 3) sc_Ldeal.nd rfl (Or.inl rfl))
    refine we_frz ?_
    refine we_slO ?_
    refine wv 0 rfl ?_
    refine wo_none (wo_some ?_)
    refine we_int ?_
    refine ⟨_, rfl, _, .inl rfl, fun l9 => ⟨l9, _, _, rfl, rfl, ?_⟩⟩
    rw [cut_map]
    refine ⟨_, gI absI, rfl, (by rw [List.length_map]; exact Nat.lt_of_le_of_lt (cut_len _ _ _) (Nat.lt_of_le_of_lt hlen (by decide))), fun i y hy l out s H C cl fp => ?_, ?_⟩
    · obtain ⟨c, hc, rfl⟩ := getIs hy
      refine wcB B.abs boot_abs ?_
      refine wa_cons ?_
      refine wv 3 rfl ?_
      refine wa_nil ?_
      refine cd_abs ?_
      exact ⟨rfl, rfl⟩
    rw [map_gI]
    refine wa_cons ?_
    refine we_int ?_
    refine wa_nil ?_
    refine ⟨_, _, rfl, ?_⟩
    refine ws_cons (w1_forL (by passes_own) rfl ?_)
    refine wv 1 rfl ?_
    refine ⟨fun _ Γ M2 => ∃ mm : Int, 0 ≤ mm ∧ mm < 2 ^ 31 ∧ Γ = [some (.lst (ns.map .int)), some (.lst (((cutL ns none (some 60)).map absI).map D.int)), some (.int mm), none] ∧ M2 = M, _, rfl, ⟨67867967, by decide, by decide, rfl, rfl⟩, ?_, ?_⟩
    · rintro i y Γ' M' hy ⟨mm, hm1, hm2, rfl, hM⟩
      subst hM
      obtain ⟨c, hc, rfl⟩ := getIs hy
      refine gd_name 3 sc_Ldeal.nd ?_
      refine ws_set 2 sc_Ldeal.nd ?_
      refine we_bin ?_
      refine wcT B.int boot_int ?_
      refine wa_cons ?_
      refine we_bin ?_
      refine we_bin ?_
      refine wv 2 rfl ?_
      refine we_int ?_
      refine od_mulW (mulB ⟨by omega, by omega⟩ ⟨by omega, by omega⟩) ?_
      refine we_bin ?_
      refine wcT B.int boot_int ?_
      refine wa_cons ?_
      refine wv 3 rfl ?_
      refine wa_nil ?_
      refine cd_int ?_
      refine we_int ?_
      refine od_mod (by decide) ?_
      walk_at "op"
      refine wa_nil ?_
      refine cd_int ?_
      refine we_int ?_
      refine od_mod (by decide) ?_
      refine ws_wk (Γ' := [some (.lst (ns.map .int)), some (.lst (((cutL ns none (some 60)).map absI).map D.int)), some (.int ((mm * 16807 + c % 2147483629) % 2147483647)), none]) (M' := M') (by repeat (first | exact wkE | refine wkS ?_ | refine wkN ?_)) (.refl _) ?_
      exact ws_nil ⟨_, by omega, by omega, rfl, rfl⟩
    · rintro Γ' M' ⟨mm, hm1, hm2, rfl, hM⟩
      subst hM
      refine ws_ret ?_
      refine we_lstO ?_
      refine wa_cons ?_
      refine we_revO ?_
      refine lcMapLF (own := [("_law_cell", 3)]) (j := 3) sc_Ldeal.nd ?_ (blkOk_by (N := ["_law_script", "_law_cells", "_law_mixed", "_law_cell"]) (sc := defScope s_Ldeal) (by decide +kernel)) (fun _ _ _ _ _ => pg_name (i := 3) sc_Ldeal.nd rfl (Or.inl rfl))
      refine wv 1 rfl ?_
      refine ⟨_, pI fun i => decide (10 ^ 18 ≤ i), fun y => y, rfl, (by rw [List.length_map, List.length_map]; exact Nat.lt_of_le_of_lt (cut_len _ _ _) (Nat.lt_of_le_of_lt hlen (by decide))), fun i y hy l out s H C cl fp => ?_, fun i y hy _ l out s H C cl fp => ?_, ?_⟩
      · obtain ⟨c, hc, rfl⟩ := getIs hy
        refine wt_cmp ?_ (nomark _)
        refine wv 3 rfl ?_
        refine we_bin ?_
        refine we_int ?_
        refine we_int ?_
        refine od_powV (v := 10 ^ 18) ⟨by decide, by decide, by decide⟩ rfl ?_
        walk_at "op"
        refine ⟨_, rfl, ?_⟩
        exact ⟨rfl, rfl⟩
      · skip
        refine wv 3 rfl ?_
        exact ⟨rfl, rfl⟩
      rw [filt_pI]
      refine ⟨_, .inl rfl, fun l_2 => ?_⟩
      rw [← List.map_reverse]
      refine wa_cons ?_
      refine wv 2 rfl ?_
      refine wa_nil ?_
      refine ⟨(by walk_at "size"), fun l_1 => ?_⟩
      exact q _ _ _ _ (deal_good hlen hm1 hm2 _ _ _)
abbrev s_Ldraw : Stmt := top 29
theorem sc_Ldraw : FnScope ["_law_deal_here", "_law_many", "_law_left"] ["_law_deal_here", "_law_many"] (defScope s_Ldraw) := ⟨rfl, rfl, rfl, by decide +kernel, rfl, by decide +kernel, by decide +kernel⟩
theorem ok_Ldraw {f : Addr} {fd : FuncData} (F : FunD K "_law_draw" "_law_draw" (defArgs s_Ldraw) (defBody s_Ldraw) (defScope s_Ldraw) [] [] f fd) (B : Bf mg) : FnOk P w K mg base CX0 1 f fd ["_law_deal_here", "_law_many"] (spOf K S_draw) := by
  refine fn_data (k := 0) F sc_Ldraw (fun ds M Φ h => ?_) (fun cdv A outer s H E ds M Φ hr h => ?_)
  · obtain ⟨l, l2, k, many, rfl, hD, hm1, hm2, q⟩ := h
    all_goals rfl
  · obtain ⟨l, l2, k, many, rfl, hD, hm1, hm2, q⟩ := h
    obtain ⟨gs, m, hg, h0, h1⟩ := hD
    have hkl : k + 1 < M.length := (List.getElem?_eq_some_iff.mp h1).1
    have hgm := hg.2.2
    refine ws_mid (fun Γ2 M2 => Γ2 = [some (.adr l), some (.int many), none] ∧ ∃ gs, Good gs m ∧ M2 = put2 M k l l2 gs m) ?_ ?_
    · refine w1_while (fun n Γ2 M2 => ∃ gs, n = gs.length ∧ Good gs m ∧ Γ2 = [some (.adr l), some (.int many), none] ∧ M2 = put2 M k l l2 gs m) (by passes_own) gs.length ⟨gs, rfl, hg, rfl, (put2_self h0 h1).symm⟩ ?_
      rintro n Γ' M' ⟨gs, rfl, hg, rfl, rfl⟩
      rcases snoc_cases gs with rfl | ⟨ys, y, rfl⟩
      · skip
        refine wt_bool ?_
        refine ww_and ?_
        refine wt_cmp ?_ (nomark _)
        refine we_ix ?_ (fun _ _ => rfl)
        refine wv 0 rfl ?_
        refine we_int ?_
        refine ix_own (k := k) (j := 0) (get2_0 hkl) rfl rfl ?_
        refine we_lst ?_
        refine wa_nil ?_
        refine ⟨(by walk_at "size"), ?_⟩
        refine od_neI0 hr.units (get2_1 hkl) ?_
        rw [decide_eq_true (rfl)]
        refine ⟨_, rfl, ?_⟩
        refine ⟨fun hb => ?_, fun hb => ?_⟩
        · walk_at "dead"
        · walk_at "tidy"
          exact ⟨fun hb => (by walk_at "dead"), fun hb => ⟨rfl, [], hg, rfl⟩⟩
      · have hgp := hg.pop
        rcases Decidable.em (y = 0) with hy | hy
        · skip
          refine wt_bool ?_
          refine ww_and ?_
          refine wt_cmp ?_ (nomark _)
          refine we_ix ?_ (fun _ _ => rfl)
          refine wv 0 rfl ?_
          refine we_int ?_
          refine ix_own (k := k) (j := 0) (get2_0 hkl) rfl rfl ?_
          refine we_lst ?_
          refine wa_nil ?_
          refine ⟨(by walk_at "size"), ?_⟩
          refine od_neI0 hr.units (get2_1 hkl) ?_
          rw [decide_eq_false (by simp)]
          refine ⟨_, rfl, ?_⟩
          refine ⟨fun hb => ?_, fun hb => ?_⟩
          · walk_at "tidy"
            refine ww_and1 ?_
            refine wt_cmp ?_ (nomark _)
            refine we_ix ?_ (fun _ _ => rfl)
            refine we_ix ?_ (fun _ _ => rfl)
            refine wv 0 rfl ?_
            refine we_int ?_
            refine ix_own (k := k) (j := 0) (get2_0 hkl) rfl rfl ?_
            refine we_un ?_
            refine we_int ?_
            refine ud_neg ?_
            refine ix_ownI (k := k + 1) (get2_1 hkl) last_ints ?_
            refine we_int ?_
            refine od_eq ?_
            rw [decide_eq_true hy]
            refine ⟨_, rfl, ?_⟩
            refine ⟨fun hb => ?_, fun hb => (by walk_at "dead")⟩
            refine ws_expr ?_
            refine we_pop ?_
            refine we_ix ?_ (fun _ _ => rfl)
            refine wv 0 rfl ?_
            refine we_int ?_
            refine ix_own (k := k) (j := 0) (get2_0 hkl) rfl rfl ?_
            refine ⟨_, k + 1, _, _, rfl, get2_1 hkl, last_ints2, ?_⟩
            rw [put2_pop]
            refine ws_nil ?_
            exact ⟨ys.length, by rw [List.length_append]; exact Nat.lt_succ_self _, ys, rfl, hgp.1, rfl, rfl⟩
          · walk_at "dead"
        · skip
          refine wt_bool ?_
          refine ww_and ?_
          refine wt_cmp ?_ (nomark _)
          refine we_ix ?_ (fun _ _ => rfl)
          refine wv 0 rfl ?_
          refine we_int ?_
          refine ix_own (k := k) (j := 0) (get2_0 hkl) rfl rfl ?_
          refine we_lst ?_
          refine wa_nil ?_
          refine ⟨(by walk_at "size"), ?_⟩
          refine od_neI0 hr.units (get2_1 hkl) ?_
          rw [decide_eq_false (by simp)]
          refine ⟨_, rfl, ?_⟩
          refine ⟨fun hb => ?_, fun hb => ?_⟩
          · walk_at "tidy"
            refine ww_and1 ?_
            refine wt_cmp ?_ (nomark _)
            refine we_ix ?_ (fun _ _ => rfl)
            refine we_ix ?_ (fun _ _ => rfl)
            refine wv 0 rfl ?_
            refine we_int ?_
            refine ix_own (k := k) (j := 0) (get2_0 hkl) rfl rfl ?_
            refine we_un ?_
            refine we_int ?_
            refine ud_neg ?_
            refine ix_ownI (k := k + 1) (get2_1 hkl) last_ints ?_
            refine we_int ?_
            refine od_eq ?_
            rw [decide_eq_false hy]
            refine ⟨_, rfl, ?_⟩
            exact ⟨fun hb => (by walk_at "dead"), fun hb => ⟨rfl, _, hg, rfl⟩⟩
          · walk_at "dead"
    rintro Γ' M' ⟨rfl, gs, hg, rfl⟩
    rcases snoc_cases gs with rfl | ⟨ys, y, rfl⟩
    · skip
      refine ws_if ?_
      refine wt_cmp ?_ (nomark _)
      refine we_ix ?_ (fun _ _ => rfl)
      refine wv 0 rfl ?_
      refine we_int ?_
      refine ix_own (k := k) (j := 0) (get2_0 hkl) rfl rfl ?_
      refine we_lst ?_
      refine wa_nil ?_
      refine ⟨(by walk_at "size"), ?_⟩
      refine od_neI0 hr.units (get2_1 hkl) ?_
      rw [decide_eq_true (rfl)]
      refine ⟨_, rfl, ?_⟩
      refine ⟨fun hb => ?_, fun hb => ?_⟩
      · walk_at "dead"
      · walk_at "tidy"
        refine ws_nil ?_
        refine ws_cons (w1_setI ?_ (by exact pg_sub pe_wp pe_wp set_list) rfl rfl rfl)
        refine we_bin ?_
        refine wcT B.int boot_int ?_
        refine wa_cons ?_
        refine we_bin ?_
        refine we_bin ?_
        refine we_ix ?_ (fun _ _ => rfl)
        refine wv 0 rfl ?_
        refine we_int ?_
        refine ix_own (k := k) (j := 1) (get2_0 hkl) rfl rfl ?_
        refine we_int ?_
        refine od_mulW (mulB ⟨by omega, by omega⟩ ⟨by omega, by omega⟩) ?_
        refine we_int ?_
        walk_at "op"
        refine wa_nil ?_
        refine cd_int ?_
        refine we_int ?_
        first
        | refine od_mod (by omega) ?_
        refine wv 0 rfl ?_
        refine we_int ?_
        refine ⟨k, 1, _, _, _, rfl, rfl, get2_0 hkl, rfl, of_decide_eq_true rfl, ?_⟩
        refine ws_wk (Γ' := [some (.adr l), some (.int many), none]) (M' := put2 M k l l2 [] ((m * 48271 + 11) % 2147483647)) (by repeat (first | exact wkE | refine wkS ?_ | refine wkN ?_)) (by rw [← put2_set1 (m := m)]; exact List.Sublist.refl _) ?_
        refine ws_ret ?_
        refine we_bin ?_
        refine wcT B.int boot_int ?_
        refine wa_cons ?_
        refine we_bin ?_
        refine we_ix ?_ (fun _ _ => rfl)
        refine wv 0 rfl ?_
        refine we_int ?_
        refine ix_own (k := k) (j := 1) (get2_0 hkl) rfl rfl ?_
        refine we_int ?_
        refine od_fdiv ⟨by decide, by decide⟩ ?_
        refine wa_nil ?_
        refine cd_int ?_
        refine wv 1 rfl ?_
        first
        | refine od_mod (by omega) ?_
        first
        | exact q _ _ _ (Int.emod_nonneg _ (by omega)) (Int.emod_lt_of_pos _ hm1) (hg.push (Int.ediv_nonneg hgp.2 (by omega)))
        | exact q _ _ _ (Int.emod_nonneg _ (by omega)) (Int.emod_lt_of_pos _ hm1) ⟨hg.1, hg.2.1, by omega, by omega⟩
    · skip
      have hgp := hg.pop
      refine ws_if ?_
      refine wt_cmp ?_ (nomark _)
      refine we_ix ?_ (fun _ _ => rfl)
      refine wv 0 rfl ?_
      refine we_int ?_
      refine ix_own (k := k) (j := 0) (get2_0 hkl) rfl rfl ?_
      refine we_lst ?_
      refine wa_nil ?_
      refine ⟨(by walk_at "size"), ?_⟩
      refine od_neI0 hr.units (get2_1 hkl) ?_
      rw [decide_eq_false (by simp)]
      refine ⟨_, rfl, ?_⟩
      refine ⟨fun hb => ?_, fun hb => ?_⟩
      · walk_at "tidy"
        refine ws_set 2 sc_Ldraw.nd ?_
        refine we_pop ?_
        refine we_ix ?_ (fun _ _ => rfl)
        refine wv 0 rfl ?_
        refine we_int ?_
        refine ix_own (k := k) (j := 0) (get2_0 hkl) rfl rfl ?_
        refine ⟨_, k + 1, _, _, rfl, get2_1 hkl, last_ints2, ?_⟩
        rw [put2_pop]
        refine ws_expr ?_
        refine we_append ?_
        refine we_ix ?_ (fun _ _ => rfl)
        refine wv 0 rfl ?_
        refine we_int ?_
        refine ix_own (k := k) (j := 0) (get2_0 hkl) rfl rfl ?_
        refine ⟨_, k + 1, _, rfl, get2_1 hkl, ?_⟩
        refine we_bin ?_
        refine wv 2 rfl ?_
        refine wv 1 rfl ?_
        refine od_fdivW (wide_div (b := 200) hm1 (by omega) (by decide) (by decide)) ?_
        refine ⟨k + 1, _, get2_1 hkl, (by rw [List.length_map]; exact Nat.lt_of_le_of_lt hgp.1.2.1 (by decide)), ?_⟩
        rw [put2_push]
        refine ws_ret ?_
        refine we_bin ?_
        refine wcT B.int boot_int ?_
        refine wa_cons ?_
        refine wv 2 rfl ?_
        refine wa_nil ?_
        refine cd_int ?_
        refine wv 1 rfl ?_
        first
        | refine od_mod (by omega) ?_
        first
        | exact q _ _ _ (Int.emod_nonneg _ (by omega)) (Int.emod_lt_of_pos _ hm1) (hg.push (Int.ediv_nonneg hgp.2 (by omega)))
        | exact q _ _ _ (Int.emod_nonneg _ (by omega)) (Int.emod_lt_of_pos _ hm1) ⟨hg.1, hg.2.1, by omega, by omega⟩
      · walk_at "dead"
abbrev s_Lpick : Stmt := top 30
theorem sc_Lpick : FnScope ["_law_deal_here", "_law_some_here"] ["_law_deal_here", "_law_some_here"] (defScope s_Lpick) := ⟨rfl, rfl, rfl, by decide +kernel, rfl, by decide +kernel, by decide +kernel⟩
theorem ok_Lpick {f : Addr} {fd : FuncData} (F : FunD K "_law_pick" "_law_pick" (defArgs s_Lpick) (defBody s_Lpick) (defScope s_Lpick) [] [] f fd) (B : Bf mg) (hDraw : HasFn P w K mg base 1 "_law_draw" S_draw) : FnOk P w K mg base CX0 2 f fd ["_law_deal_here", "_law_some_here"] (spOf K S_pick) := by
  refine fn_data (k := 1) F sc_Lpick (fun ds M Φ h => ?_) (fun cdv A outer s H E ds M Φ hr h => ?_)
  · obtain ⟨l, l2, k, xs, rfl | rfl, hD, hx1, hx2, q⟩ := h
    all_goals rfl
  · obtain ⟨l, l2, k, xs, hd, hD, hx1, hx2, q⟩ := h
    rcases hd with rfl | rfl
    · skip
      refine ws_ret ?_
      refine we_ix ?_ (fun _ _ => rfl)
      refine wv 1 rfl ?_
      refine wcf hDraw (hr.mono (by decide)) ?_
      refine wa_cons ?_
      refine wv 0 rfl ?_
      refine wa_cons ?_
      refine wcB B.len boot_len ?_
      refine wa_cons ?_
      refine wv 1 rfl ?_
      refine wa_nil ?_
      first
      | refine cd_len_lst ?_
      | refine cd_len_tup ?_
      refine wa_nil ?_
      refine ⟨l, l2, k, _, rfl, hD, by omega, by omega, fun r gs m h0 h1 hg => ?_⟩
      obtain ⟨j, x, ej, hj, hx⟩ := pick_in h0 h1
      first
      | refine ix_lst (j := j) ej hj ?_
      | refine ix_tup (j := j) ej hj ?_
      exact q _ _ _ hx hg
    · skip
      refine ws_ret ?_
      refine we_ix ?_ (fun _ _ => rfl)
      refine wv 1 rfl ?_
      refine wcf hDraw (hr.mono (by decide)) ?_
      refine wa_cons ?_
      refine wv 0 rfl ?_
      refine wa_cons ?_
      refine wcB B.len boot_len ?_
      refine wa_cons ?_
      refine wv 1 rfl ?_
      refine wa_nil ?_
      first
      | refine cd_len_lst ?_
      | refine cd_len_tup ?_
      refine wa_nil ?_
      refine ⟨l, l2, k, _, rfl, hD, by omega, by omega, fun r gs m h0 h1 hg => ?_⟩
      obtain ⟨j, x, ej, hj, hx⟩ := pick_in h0 h1
      first
      | refine ix_lst (j := j) ej hj ?_
      | refine ix_tup (j := j) ej hj ?_
      exact q _ _ _ hx hg
end
end Sl57
set_option Elab.async false
set_option linter.all false
set_option maxRecDepth 100000
set_option maxHeartbeats 4000000
namespace Sl57
open PySem PySem.Spec PyProof.Rows L2 Dt
set_option hygiene false
local macro_rules | `(tactic| walk_at "op") => `(tactic| (first
  | refine od_add ?_ | refine od_sub ?_ | refine od_lt ?_ | refine od_le ?_ | refine od_gt ?_ | refine od_ge ?_ | refine od_eq ?_ | refine od_ne ?_ | refine od_is ?_ | refine od_isn ?_
  | refine od_eqS ?_ | refine od_neS ?_ | refine od_eqB ?_ | refine od_neB ?_))
local macro_rules | `(tactic| walk_at "dead") => `(tactic| (first
  | (cases hb; done)
  | (exact absurd (show false = true from hb) (by decide))
  | (exact absurd (show true = false from hb) (by decide))
  | (exact absurd hb (by decide))
  | (exfalso; simp only [decide_eq_true_eq, decide_eq_false_iff_not, Bool.not_eq_true', Bool.not_eq_false'] at hb; omega)))
local macro_rules | `(tactic| walk_at "tidy") => `(tactic| (try simp only [decide_eq_true_eq, decide_eq_false_iff_not, Bool.not_eq_true', Bool.not_eq_false'] at hb))
local macro_rules | `(tactic| walk_at "truth") => `(tactic| (first | refine tr_bl ?_ | refine tr_lst ?_ | refine tr_tup ?_ | refine tr_non ?_ | refine tr_int ?_))
local macro_rules | `(tactic| walk_at "ix") => `(tactic| (first
  | refine ix_tup (j := 0) rfl rfl ?_ | refine ix_tup (j := 1) rfl rfl ?_ | refine ix_tup (j := 2) rfl rfl ?_
  | refine ix_lst (j := 0) rfl rfl ?_ | refine ix_lst (j := 1) rfl rfl ?_ | refine ix_lst (j := 2) rfl rfl ?_
  | refine ix_own (k := 0) (j := 0) rfl rfl rfl ?_
  | refine ix_own (k := 0) (j := 1) rfl rfl rfl ?_
  | refine ix_own (k := 0) (j := 2) rfl rfl rfl ?_
  | refine ix_own (k := 1) (j := 0) rfl rfl rfl ?_
  | refine ix_own (k := 1) (j := 1) rfl rfl rfl ?_
  | refine ix_own (k := 1) (j := 2) rfl rfl rfl ?_
  | refine ix_own (k := 2) (j := 0) rfl rfl rfl ?_
  | refine ix_own (k := 2) (j := 1) rfl rfl rfl ?_
  | refine ix_own (k := 2) (j := 2) rfl rfl rfl ?_
  | refine ix_own (k := 3) (j := 0) rfl rfl rfl ?_
  | refine ix_own (k := 3) (j := 1) rfl rfl rfl ?_
  | refine ix_own (k := 3) (j := 2) rfl rfl rfl ?_
  | refine ix_own (k := 4) (j := 0) rfl rfl rfl ?_
  | refine ix_own (k := 4) (j := 1) rfl rfl rfl ?_
  | refine ix_own (k := 4) (j := 2) rfl rfl rfl ?_
  | refine ix_own (k := 5) (j := 0) rfl rfl rfl ?_
  | refine ix_own (k := 5) (j := 1) rfl rfl rfl ?_
  | refine ix_own (k := 5) (j := 2) rfl rfl rfl ?_
  | refine ix_own (k := 6) (j := 0) rfl rfl rfl ?_
  | refine ix_own (k := 6) (j := 1) rfl rfl rfl ?_
  | refine ix_own (k := 6) (j := 2) rfl rfl rfl ?_
  | refine ix_own (k := 7) (j := 0) rfl rfl rfl ?_
  | refine ix_own (k := 7) (j := 1) rfl rfl rfl ?_
  | refine ix_own (k := 7) (j := 2) rfl rfl rfl ?_
  | refine ix_own (k := 8) (j := 0) rfl rfl rfl ?_
  | refine ix_own (k := 8) (j := 1) rfl rfl rfl ?_
  | refine ix_own (k := 8) (j := 2) rfl rfl rfl ?_
  | refine ix_own (k := 9) (j := 0) rfl rfl rfl ?_
  | refine ix_own (k := 9) (j := 1) rfl rfl rfl ?_
  | refine ix_own (k := 9) (j := 2) rfl rfl rfl ?_
  | refine ix_own (k := 10) (j := 0) rfl rfl rfl ?_
  | refine ix_own (k := 10) (j := 1) rfl rfl rfl ?_
  | refine ix_own (k := 10) (j := 2) rfl rfl rfl ?_
  | refine ix_own (k := 11) (j := 0) rfl rfl rfl ?_
  | refine ix_own (k := 11) (j := 1) rfl rfl rfl ?_
  | refine ix_own (k := 11) (j := 2) rfl rfl rfl ?_
  | refine ix_own (k := 12) (j := 0) rfl rfl rfl ?_
  | refine ix_own (k := 12) (j := 1) rfl rfl rfl ?_
  | refine ix_own (k := 12) (j := 2) rfl rfl rfl ?_
  | refine ix_own (k := 13) (j := 0) rfl rfl rfl ?_
  | refine ix_own (k := 13) (j := 1) rfl rfl rfl ?_
  | refine ix_own (k := 13) (j := 2) rfl rfl rfl ?_))
local macro_rules | `(tactic| walk_at "seti") => `(tactic| (first
  | refine ⟨0, 0, _, _, _, rfl, rfl, rfl, rfl, of_decide_eq_true rfl, ?_⟩
  | refine ⟨0, 1, _, _, _, rfl, rfl, rfl, rfl, of_decide_eq_true rfl, ?_⟩
  | refine ⟨0, 2, _, _, _, rfl, rfl, rfl, rfl, of_decide_eq_true rfl, ?_⟩
  | refine ⟨1, 0, _, _, _, rfl, rfl, rfl, rfl, of_decide_eq_true rfl, ?_⟩
  | refine ⟨1, 1, _, _, _, rfl, rfl, rfl, rfl, of_decide_eq_true rfl, ?_⟩
  | refine ⟨1, 2, _, _, _, rfl, rfl, rfl, rfl, of_decide_eq_true rfl, ?_⟩
  | refine ⟨2, 0, _, _, _, rfl, rfl, rfl, rfl, of_decide_eq_true rfl, ?_⟩
  | refine ⟨2, 1, _, _, _, rfl, rfl, rfl, rfl, of_decide_eq_true rfl, ?_⟩
  | refine ⟨2, 2, _, _, _, rfl, rfl, rfl, rfl, of_decide_eq_true rfl, ?_⟩
  | refine ⟨3, 0, _, _, _, rfl, rfl, rfl, rfl, of_decide_eq_true rfl, ?_⟩
  | refine ⟨3, 1, _, _, _, rfl, rfl, rfl, rfl, of_decide_eq_true rfl, ?_⟩
  | refine ⟨3, 2, _, _, _, rfl, rfl, rfl, rfl, of_decide_eq_true rfl, ?_⟩
  | refine ⟨4, 0, _, _, _, rfl, rfl, rfl, rfl, of_decide_eq_true rfl, ?_⟩
  | refine ⟨4, 1, _, _, _, rfl, rfl, rfl, rfl, of_decide_eq_true rfl, ?_⟩
  | refine ⟨4, 2, _, _, _, rfl, rfl, rfl, rfl, of_decide_eq_true rfl, ?_⟩
  | refine ⟨5, 0, _, _, _, rfl, rfl, rfl, rfl, of_decide_eq_true rfl, ?_⟩
  | refine ⟨5, 1, _, _, _, rfl, rfl, rfl, rfl, of_decide_eq_true rfl, ?_⟩
  | refine ⟨5, 2, _, _, _, rfl, rfl, rfl, rfl, of_decide_eq_true rfl, ?_⟩
  | refine ⟨6, 0, _, _, _, rfl, rfl, rfl, rfl, of_decide_eq_true rfl, ?_⟩
  | refine ⟨6, 1, _, _, _, rfl, rfl, rfl, rfl, of_decide_eq_true rfl, ?_⟩
  | refine ⟨6, 2, _, _, _, rfl, rfl, rfl, rfl, of_decide_eq_true rfl, ?_⟩
  | refine ⟨7, 0, _, _, _, rfl, rfl, rfl, rfl, of_decide_eq_true rfl, ?_⟩
  | refine ⟨7, 1, _, _, _, rfl, rfl, rfl, rfl, of_decide_eq_true rfl, ?_⟩
  | refine ⟨7, 2, _, _, _, rfl, rfl, rfl, rfl, of_decide_eq_true rfl, ?_⟩
  | refine ⟨8, 0, _, _, _, rfl, rfl, rfl, rfl, of_decide_eq_true rfl, ?_⟩
  | refine ⟨8, 1, _, _, _, rfl, rfl, rfl, rfl, of_decide_eq_true rfl, ?_⟩
  | refine ⟨8, 2, _, _, _, rfl, rfl, rfl, rfl, of_decide_eq_true rfl, ?_⟩
  | refine ⟨9, 0, _, _, _, rfl, rfl, rfl, rfl, of_decide_eq_true rfl, ?_⟩
  | refine ⟨9, 1, _, _, _, rfl, rfl, rfl, rfl, of_decide_eq_true rfl, ?_⟩
  | refine ⟨9, 2, _, _, _, rfl, rfl, rfl, rfl, of_decide_eq_true rfl, ?_⟩
  | refine ⟨10, 0, _, _, _, rfl, rfl, rfl, rfl, of_decide_eq_true rfl, ?_⟩
  | refine ⟨10, 1, _, _, _, rfl, rfl, rfl, rfl, of_decide_eq_true rfl, ?_⟩
  | refine ⟨10, 2, _, _, _, rfl, rfl, rfl, rfl, of_decide_eq_true rfl, ?_⟩
  | refine ⟨11, 0, _, _, _, rfl, rfl, rfl, rfl, of_decide_eq_true rfl, ?_⟩
  | refine ⟨11, 1, _, _, _, rfl, rfl, rfl, rfl, of_decide_eq_true rfl, ?_⟩
  | refine ⟨11, 2, _, _, _, rfl, rfl, rfl, rfl, of_decide_eq_true rfl, ?_⟩
  | refine ⟨12, 0, _, _, _, rfl, rfl, rfl, rfl, of_decide_eq_true rfl, ?_⟩
  | refine ⟨12, 1, _, _, _, rfl, rfl, rfl, rfl, of_decide_eq_true rfl, ?_⟩
  | refine ⟨12, 2, _, _, _, rfl, rfl, rfl, rfl, of_decide_eq_true rfl, ?_⟩
  | refine ⟨13, 0, _, _, _, rfl, rfl, rfl, rfl, of_decide_eq_true rfl, ?_⟩
  | refine ⟨13, 1, _, _, _, rfl, rfl, rfl, rfl, of_decide_eq_true rfl, ?_⟩
  | refine ⟨13, 2, _, _, _, rfl, rfl, rfl, rfl, of_decide_eq_true rfl, ?_⟩))
local macro_rules | `(tactic| walk_at "lst") => `(tactic| (first
  | refine cd_list (.inr (.inr ⟨0, _, rfl, rfl⟩)) ?_
  | refine cd_list (.inr (.inr ⟨1, _, rfl, rfl⟩)) ?_
  | refine cd_list (.inr (.inr ⟨2, _, rfl, rfl⟩)) ?_
  | refine cd_list (.inr (.inr ⟨3, _, rfl, rfl⟩)) ?_
  | refine cd_list (.inr (.inr ⟨4, _, rfl, rfl⟩)) ?_
  | refine cd_list (.inr (.inr ⟨5, _, rfl, rfl⟩)) ?_
  | refine cd_list (.inr (.inr ⟨6, _, rfl, rfl⟩)) ?_
  | refine cd_list (.inr (.inr ⟨7, _, rfl, rfl⟩)) ?_
  | refine cd_list (.inr (.inr ⟨8, _, rfl, rfl⟩)) ?_
  | refine cd_list (.inr (.inr ⟨9, _, rfl, rfl⟩)) ?_
  | refine cd_list (.inr (.inr ⟨10, _, rfl, rfl⟩)) ?_
  | refine cd_list (.inr (.inr ⟨11, _, rfl, rfl⟩)) ?_
  | refine cd_list (.inr (.inr ⟨12, _, rfl, rfl⟩)) ?_
  | refine cd_list (.inr (.inr ⟨13, _, rfl, rfl⟩)) ?_))
local macro_rules | `(tactic| walk_at "isi") => `(tactic| (first | refine cd_isi (k := true) rfl (by decide +kernel) ?_ | refine cd_isi (k := false) rfl (by decide +kernel) ?_))
local macro_rules | `(tactic| walk_at "size") => `(tactic| (first
  | exact (show 0 ≤ sizeLine by decide) | exact (show 1 ≤ sizeLine by decide) | exact (show 2 ≤ sizeLine by decide) | exact (show 3 ≤ sizeLine by decide) | exact (show 4 ≤ sizeLine by decide) | exact (show 5 ≤ sizeLine by decide) | exact (show 6 ≤ sizeLine by decide) | exact (of_decide_eq_true rfl) | exact (Nat.le_of_ble_eq_true rfl)))
section
variable {P : Program} {w : World} {K : PySem.W.Frag} {mg : Str → Option Value} {base : Heap}
def isInt : D → Bool
  | .int _ => true
  | _ => false
def S_is_integer : DS := fun ds M Φ => ∃ d t, ds = [d] ∧ tyD d = some t ∧ Φ (.bl (isInt d)) M
def rowW : List Str := ["start", "go", "if", "else", "while", "see", "stop", "end", "never"]
def fauW : List Str := ["astray", "barred", "endless", "halted"]
def letS : Str := "abcdefghijklmnopqrstuvwxyz"
structure WG (K : PySem.W.Frag) (mg : Str → Option Value) : Prop where
  most : ∃ t, mg "MOST_LETTERS" = some (.int 6 t)
  lett : ∃ t, mg "LETTERS" = some (.str letS t)
  row : ∃ a, mg "ROW_WORDS" = some (.ref a) ∧ ∀ H : Hp, SqT K H a (rowW.map V.str)
  fau : ∃ a, mg "FAULTS" = some (.ref a) ∧ ∀ H : Hp, SqT K H a (fauW.map V.str)
def nameOk (x : Str) : Bool := decide (0 < x.length ∧ x.length ≤ 6) && (!decide (x ∈ rowW) && (!decide (x ∈ fauW) && x.cps.toList.all fun c => decide (c ∈ letS.cps.toList)))
def isName : D → Bool
  | .str x => nameOk x
  | _ => false
theorem nm1 {x : Str} (h : ¬ (0 < x.length ∧ x.length ≤ 6)) : nameOk x = false := by
  unfold nameOk
  rw [decide_eq_false h, Bool.false_and]
theorem nm2 {x : Str} (h : x ∈ rowW) : nameOk x = false := by
  unfold nameOk
  rw [decide_eq_true h, Bool.not_true, Bool.false_and, Bool.and_false]
theorem nm3 {x : Str} (h : x ∈ fauW) : nameOk x = false := by
  unfold nameOk
  rw [decide_eq_true h, Bool.not_true, Bool.false_and, Bool.and_false, Bool.and_false]
theorem nm4 {x : Str} (h : 0 < x.length ∧ x.length ≤ 6) (h2 : ¬ x ∈ rowW) (h3 : ¬ x ∈ fauW) : nameOk x = (x.cps.toList.map fun c => decide (c ∈ letS.cps.toList)).all id := by
  unfold nameOk
  rw [decide_eq_true h, decide_eq_false h2, decide_eq_false h3, Bool.not_false, Bool.true_and, Bool.true_and, Bool.true_and, List.all_map]
  rfl
def S_is_name : DS := fun ds M Φ => ∃ d t, ds = [d] ∧ tyD d = some t ∧ (∀ x, d = .str x → x.length ≤ 1000) ∧ Φ (.bl (isName d)) M
abbrev s_is_integer : Stmt := top 10
theorem sc_is_integer : FnScope ["value"] ["value"] (defScope s_is_integer) := ⟨rfl, rfl, rfl, by decide +kernel, rfl, by decide +kernel, by decide +kernel⟩
theorem ok_is_integer {f : Addr} {fd : FuncData} (F : FunD K "is_integer" "is_integer" (defArgs s_is_integer) (defBody s_is_integer) (defScope s_is_integer) [] [] f fd) (B : Bf mg) : FnOk P w K mg base CX0 1 f fd ["value"] (spOf K S_is_integer) := by
  refine fn_data (k := 0) F sc_is_integer (fun ds M Φ h => ?_) (fun cdv A outer s H E ds M Φ hr h => ?_)
  · obtain ⟨d, t, rfl, ht, q⟩ := h
    all_goals rfl
  · obtain ⟨d, t, rfl, ht, q⟩ := h
    cases d with
    | ty n => cases ht
    | obj C fs => cases ht
    | adr a => cases ht
    | dic ks => cases ht
    | exc a b c d => cases ht
    | exv a b => cases ht
    | dcs a => cases ht
    | _ =>
      refine ws_ret ?_
      refine we_and ?_
      refine wcB B.isi boot_isinstance ?_
      refine wa_cons ?_
      refine wv 0 rfl ?_
      refine wa_cons ?_
      refine wbt B.int boot_int ?_
      refine wa_nil ?_
      walk_at "isi"
      refine ⟨_, rfl, fun hb => ?_, fun hb => ?_⟩
      · first
        | (walk_at "dead")
        | (
          walk_at "tidy"
          refine we_one ?_
          refine wnotv ?_
          refine wcB B.isi boot_isinstance ?_
          refine wa_cons ?_
          refine wv 0 rfl ?_
          refine wa_cons ?_
          refine wbt B.bool boot_bool ?_
          refine wa_nil ?_
          walk_at "isi"
          walk_at "truth"
          exact q)
      · first
        | (walk_at "dead")
        | (
          walk_at "tidy"
          exact q)
abbrev s_is_name : Stmt := top 12
theorem sc_is_name : FnScope ["value", "sign"] ["value"] (defScope s_is_name) := ⟨rfl, rfl, rfl, by decide +kernel, rfl, by decide +kernel, by decide +kernel⟩
theorem ok_is_name {f : Addr} {fd : FuncData} (F : FunD K "is_name" "is_name" (defArgs s_is_name) (defBody s_is_name) (defScope s_is_name) [] [] f fd) (B : Bf mg) (G : WG K mg) : FnOk P w K mg base CX0 1 f fd ["value"] (spOf K S_is_name) := by
  refine fn_data (k := 0) F sc_is_name (fun ds M Φ h => ?_) (fun cdv A outer s H E ds M Φ hr h => ?_)
  · obtain ⟨d, t, rfl, ht, hx, q⟩ := h
    all_goals rfl
  · obtain ⟨d, t, rfl, ht, hx, q⟩ := h
    obtain ⟨a3, g3, t3⟩ := G.row
    obtain ⟨a4, g4, t4⟩ := G.fau
    cases d with
    | ty n => cases ht
    | obj C fs => cases ht
    | adr a => cases ht
    | dic ks => cases ht
    | exc a b c d => cases ht
    | exv a b => cases ht
    | dcs a => cases ht
    | str x =>
      have hxl := hx x rfl
      have hsz : sizeLine = 2 ^ 24 := rfl
      rcases Decidable.em (x ∈ rowW) with h2 | h2
      · skip
        refine ws_if ?_
        refine wt_bool ?_
        refine ww_or ?_
        refine wt_not ?_
        refine wt_val ?_ (by intro _; rfl)
        refine wcB B.isi boot_isinstance ?_
        refine wa_cons ?_
        refine wv 0 rfl ?_
        refine wa_cons ?_
        refine wbt B.str boot_str ?_
        refine wa_nil ?_
        walk_at "isi"
        walk_at "truth"
        refine ⟨fun hb => ?_, fun hb => ?_⟩
        · walk_at "dead"
        · walk_at "tidy"
          refine ww_or ?_
          refine wt_not ?_
          refine wt_chain ?_
          refine we_int ?_
          refine wcB B.len boot_len ?_
          refine wa_cons ?_
          refine wv 0 rfl ?_
          refine wa_nil ?_
          refine cd_len_str (by omega) ?_
          walk_at "op"
          refine ⟨_, rfl, fun hb => ?_, fun hb => ?_⟩
          · first
            | (walk_at "dead")
            | (
              walk_at "tidy"
              refine we_gint G.most ?_
              walk_at "op"
              refine ⟨_, rfl, ?_⟩
              refine ⟨fun hb => ?_, fun hb => ?_⟩
              · first
                | (walk_at "dead")
                | (
                  walk_at "tidy"
                  refine ⟨fun hb => ?_, fun hb => ?_⟩
                  · walk_at "tidy"
                    refine ws_ret ?_
                    refine we_bl ?_
                    first
                    | exact q
                    | (rw [show isName (.str x) = false from nm1 (by omega)] at q; exact q)
                    | (rw [show isName (.str x) = false from nm2 h2] at q; exact q)
                    | (rw [show isName (.str x) = false from nm3 h3] at q; exact q)
                    | (rw [show isName (.str x) = _ from nm4 (by omega) h2 h3] at q; exact q)
                  · walk_at "dead")
              · first
                | (walk_at "dead")
                | (
                  walk_at "tidy"
                  refine ww_or ?_
                  refine wt_cmp ?_ (by rfl)
                  refine wv 0 rfl ?_
                  refine we_gtup g3 t3 ?_
                  refine od_inTS ?_
                  first
                  | rw [decide_eq_true h2]
                  | rw [decide_eq_false h2]
                  refine ⟨_, rfl, ?_⟩
                  refine ⟨fun hb => ?_, fun hb => ?_⟩
                  · walk_at "tidy"
                    refine ⟨fun hb => ?_, fun hb => ?_⟩
                    · walk_at "tidy"
                      refine ws_ret ?_
                      refine we_bl ?_
                      first
                      | exact q
                      | (rw [show isName (.str x) = false from nm1 (by omega)] at q; exact q)
                      | (rw [show isName (.str x) = false from nm2 h2] at q; exact q)
                      | (rw [show isName (.str x) = false from nm3 h3] at q; exact q)
                      | (rw [show isName (.str x) = _ from nm4 (by omega) h2 h3] at q; exact q)
                    · walk_at "dead"
                  · walk_at "dead"))
          · first
            | (walk_at "dead")
            | (
              walk_at "tidy"
              refine ⟨fun hb => ?_, fun hb => ?_⟩
              · walk_at "tidy"
                refine ⟨fun hb => ?_, fun hb => ?_⟩
                · walk_at "tidy"
                  refine ws_ret ?_
                  refine we_bl ?_
                  first
                  | exact q
                  | (rw [show isName (.str x) = false from nm1 (by omega)] at q; exact q)
                  | (rw [show isName (.str x) = false from nm2 h2] at q; exact q)
                  | (rw [show isName (.str x) = false from nm3 h3] at q; exact q)
                  | (rw [show isName (.str x) = _ from nm4 (by omega) h2 h3] at q; exact q)
                · walk_at "dead"
              · walk_at "dead")
      · rcases Decidable.em (x ∈ fauW) with h3 | h3
        · skip
          refine ws_if ?_
          refine wt_bool ?_
          refine ww_or ?_
          refine wt_not ?_
          refine wt_val ?_ (by intro _; rfl)
          refine wcB B.isi boot_isinstance ?_
          refine wa_cons ?_
          refine wv 0 rfl ?_
          refine wa_cons ?_
          refine wbt B.str boot_str ?_
          refine wa_nil ?_
          walk_at "isi"
          walk_at "truth"
          refine ⟨fun hb => ?_, fun hb => ?_⟩
          · walk_at "dead"
          · walk_at "tidy"
            refine ww_or ?_
            refine wt_not ?_
            refine wt_chain ?_
            refine we_int ?_
            refine wcB B.len boot_len ?_
            refine wa_cons ?_
            refine wv 0 rfl ?_
            refine wa_nil ?_
            refine cd_len_str (by omega) ?_
            walk_at "op"
            refine ⟨_, rfl, fun hb => ?_, fun hb => ?_⟩
            · first
              | (walk_at "dead")
              | (
                walk_at "tidy"
                refine we_gint G.most ?_
                walk_at "op"
                refine ⟨_, rfl, ?_⟩
                refine ⟨fun hb => ?_, fun hb => ?_⟩
                · first
                  | (walk_at "dead")
                  | (
                    walk_at "tidy"
                    refine ⟨fun hb => ?_, fun hb => ?_⟩
                    · walk_at "tidy"
                      refine ws_ret ?_
                      refine we_bl ?_
                      first
                      | exact q
                      | (rw [show isName (.str x) = false from nm1 (by omega)] at q; exact q)
                      | (rw [show isName (.str x) = false from nm2 h2] at q; exact q)
                      | (rw [show isName (.str x) = false from nm3 h3] at q; exact q)
                      | (rw [show isName (.str x) = _ from nm4 (by omega) h2 h3] at q; exact q)
                    · walk_at "dead")
                · first
                  | (walk_at "dead")
                  | (
                    walk_at "tidy"
                    refine ww_or ?_
                    refine wt_cmp ?_ (by rfl)
                    refine wv 0 rfl ?_
                    refine we_gtup g3 t3 ?_
                    refine od_inTS ?_
                    first
                    | rw [decide_eq_true h2]
                    | rw [decide_eq_false h2]
                    refine ⟨_, rfl, ?_⟩
                    refine ⟨fun hb => ?_, fun hb => ?_⟩
                    · walk_at "dead"
                    · walk_at "tidy"
                      refine ww_or1 ?_
                      refine wt_cmp ?_ (by rfl)
                      refine wv 0 rfl ?_
                      refine we_gtup g4 t4 ?_
                      refine od_inTS ?_
                      first
                      | rw [decide_eq_true h3]
                      | rw [decide_eq_false h3]
                      refine ⟨_, rfl, ?_⟩
                      refine ⟨fun hb => ?_, fun hb => ?_⟩
                      · walk_at "tidy"
                        refine ws_ret ?_
                        refine we_bl ?_
                        first
                        | exact q
                        | (rw [show isName (.str x) = false from nm1 (by omega)] at q; exact q)
                        | (rw [show isName (.str x) = false from nm2 h2] at q; exact q)
                        | (rw [show isName (.str x) = false from nm3 h3] at q; exact q)
                        | (rw [show isName (.str x) = _ from nm4 (by omega) h2 h3] at q; exact q)
                      · walk_at "dead"))
            · first
              | (walk_at "dead")
              | (
                walk_at "tidy"
                refine ⟨fun hb => ?_, fun hb => ?_⟩
                · walk_at "tidy"
                  refine ⟨fun hb => ?_, fun hb => ?_⟩
                  · walk_at "tidy"
                    refine ws_ret ?_
                    refine we_bl ?_
                    first
                    | exact q
                    | (rw [show isName (.str x) = false from nm1 (by omega)] at q; exact q)
                    | (rw [show isName (.str x) = false from nm2 h2] at q; exact q)
                    | (rw [show isName (.str x) = false from nm3 h3] at q; exact q)
                    | (rw [show isName (.str x) = _ from nm4 (by omega) h2 h3] at q; exact q)
                  · walk_at "dead"
                · walk_at "dead")
        · skip
          refine ws_if ?_
          refine wt_bool ?_
          refine ww_or ?_
          refine wt_not ?_
          refine wt_val ?_ (by intro _; rfl)
          refine wcB B.isi boot_isinstance ?_
          refine wa_cons ?_
          refine wv 0 rfl ?_
          refine wa_cons ?_
          refine wbt B.str boot_str ?_
          refine wa_nil ?_
          walk_at "isi"
          walk_at "truth"
          refine ⟨fun hb => ?_, fun hb => ?_⟩
          · walk_at "dead"
          · walk_at "tidy"
            refine ww_or ?_
            refine wt_not ?_
            refine wt_chain ?_
            refine we_int ?_
            refine wcB B.len boot_len ?_
            refine wa_cons ?_
            refine wv 0 rfl ?_
            refine wa_nil ?_
            refine cd_len_str (by omega) ?_
            walk_at "op"
            refine ⟨_, rfl, fun hb => ?_, fun hb => ?_⟩
            · first
              | (walk_at "dead")
              | (
                walk_at "tidy"
                refine we_gint G.most ?_
                walk_at "op"
                refine ⟨_, rfl, ?_⟩
                refine ⟨fun hb => ?_, fun hb => ?_⟩
                · first
                  | (walk_at "dead")
                  | (
                    walk_at "tidy"
                    refine ⟨fun hb => ?_, fun hb => ?_⟩
                    · walk_at "tidy"
                      refine ws_ret ?_
                      refine we_bl ?_
                      first
                      | exact q
                      | (rw [show isName (.str x) = false from nm1 (by omega)] at q; exact q)
                      | (rw [show isName (.str x) = false from nm2 h2] at q; exact q)
                      | (rw [show isName (.str x) = false from nm3 h3] at q; exact q)
                      | (rw [show isName (.str x) = _ from nm4 (by omega) h2 h3] at q; exact q)
                    · walk_at "dead")
                · first
                  | (walk_at "dead")
                  | (
                    walk_at "tidy"
                    refine ww_or ?_
                    refine wt_cmp ?_ (by rfl)
                    refine wv 0 rfl ?_
                    refine we_gtup g3 t3 ?_
                    refine od_inTS ?_
                    first
                    | rw [decide_eq_true h2]
                    | rw [decide_eq_false h2]
                    refine ⟨_, rfl, ?_⟩
                    refine ⟨fun hb => ?_, fun hb => ?_⟩
                    · walk_at "dead"
                    · walk_at "tidy"
                      refine ww_or1 ?_
                      refine wt_cmp ?_ (by rfl)
                      refine wv 0 rfl ?_
                      refine we_gtup g4 t4 ?_
                      refine od_inTS ?_
                      first
                      | rw [decide_eq_true h3]
                      | rw [decide_eq_false h3]
                      refine ⟨_, rfl, ?_⟩
                      refine ⟨fun hb => ?_, fun hb => ?_⟩
                      · walk_at "dead"
                      · walk_at "tidy"
                        refine ws_nil ?_
                        refine ws_ret ?_
                        refine wcB B.all bt_all ?_
                        refine wa_cons ?_
                        refine lcMapS (own := [("sign", 1)]) (j := 1) sc_is_name.nd ?_ (blkOk_by (N := ["value", "sign"]) (sc := defScope s_is_name) (by decide +kernel)) (fun _ _ _ _ _ => pg_name (i := 1) sc_is_name.nd rfl (Or.inl rfl))
                        refine wv 0 rfl ?_
                        refine ⟨x, fun c => .bl (decide (c ∈ letS.cps.toList)), rfl, (Nat.lt_of_le_of_lt (show x.cps.size ≤ 1000 from hx x rfl) (by decide)), fun c hc l out s H C cl fp => ?_, ?_⟩
                        · refine we_cmp ?_ (by rfl)
                          refine wv 1 rfl ?_
                          refine we_gstr G.lett ?_
                          refine od_inSign ?_
                          exact ⟨rfl, rfl⟩
                        rw [show (x.cps.toList.map fun c => D.bl (decide (c ∈ letS.cps.toList))) = (x.cps.toList.map fun c => decide (c ∈ letS.cps.toList)).map D.bl by rw [List.map_map]; rfl]
                        refine wa_nil ?_
                        refine cd_all rfl ?_
                        first
                        | exact q
                        | (rw [show isName (.str x) = false from nm1 (by omega)] at q; exact q)
                        | (rw [show isName (.str x) = false from nm2 h2] at q; exact q)
                        | (rw [show isName (.str x) = false from nm3 h3] at q; exact q)
                        | (rw [show isName (.str x) = _ from nm4 (by omega) h2 h3] at q; exact q)))
            · first
              | (walk_at "dead")
              | (
                walk_at "tidy"
                refine ⟨fun hb => ?_, fun hb => ?_⟩
                · walk_at "tidy"
                  refine ⟨fun hb => ?_, fun hb => ?_⟩
                  · walk_at "tidy"
                    refine ws_ret ?_
                    refine we_bl ?_
                    first
                    | exact q
                    | (rw [show isName (.str x) = false from nm1 (by omega)] at q; exact q)
                    | (rw [show isName (.str x) = false from nm2 h2] at q; exact q)
                    | (rw [show isName (.str x) = false from nm3 h3] at q; exact q)
                    | (rw [show isName (.str x) = _ from nm4 (by omega) h2 h3] at q; exact q)
                  · walk_at "dead"
                · walk_at "dead")
    | _ =>
      refine ws_if ?_
      refine wt_bool ?_
      refine ww_or ?_
      refine wt_not ?_
      refine wt_val ?_ (by intro _; rfl)
      refine wcB B.isi boot_isinstance ?_
      refine wa_cons ?_
      refine wv 0 rfl ?_
      refine wa_cons ?_
      refine wbt B.str boot_str ?_
      refine wa_nil ?_
      walk_at "isi"
      walk_at "truth"
      refine ⟨fun hb => ?_, fun hb => ?_⟩
      · walk_at "tidy"
        refine ⟨fun hb => ?_, fun hb => ?_⟩
        · walk_at "tidy"
          refine ws_ret ?_
          refine we_bl ?_
          first
          | exact q
          | (rw [show isName (.str x) = false from nm1 (by omega)] at q; exact q)
          | (rw [show isName (.str x) = false from nm2 h2] at q; exact q)
          | (rw [show isName (.str x) = false from nm3 h3] at q; exact q)
          | (rw [show isName (.str x) = _ from nm4 (by omega) h2 h3] at q; exact q)
        · walk_at "dead"
      · walk_at "dead"
end
end Sl57
set_option Elab.async false
set_option linter.all false
set_option maxRecDepth 100000
set_option maxHeartbeats 4000000
namespace Sl57
open PySem PySem.Spec PyProof.Rows L2 Dt
set_option hygiene false
local macro_rules | `(tactic| walk_at "op") => `(tactic| (first
  | refine od_add ?_ | refine od_sub ?_ | refine od_lt ?_ | refine od_le ?_ | refine od_gt ?_ | refine od_ge ?_ | refine od_eq ?_ | refine od_ne ?_ | refine od_is ?_ | refine od_isn ?_
  | refine od_eqS ?_ | refine od_neS ?_ | refine od_eqB ?_ | refine od_neB ?_))
local macro_rules | `(tactic| walk_at "dead") => `(tactic| (first
  | (cases hb; done)
  | (exact absurd (show false = true from hb) (by decide))
  | (exact absurd (show true = false from hb) (by decide))
  | (exact absurd hb (by decide))
  | (exfalso; simp only [decide_eq_true_eq, decide_eq_false_iff_not, Bool.not_eq_true', Bool.not_eq_false'] at hb; omega)))
local macro_rules | `(tactic| walk_at "tidy") => `(tactic| (try simp only [decide_eq_true_eq, decide_eq_false_iff_not, Bool.not_eq_true', Bool.not_eq_false'] at hb))
local macro_rules | `(tactic| walk_at "truth") => `(tactic| (first | refine tr_bl ?_ | refine tr_lst ?_ | refine tr_tup ?_ | refine tr_non ?_ | refine tr_int ?_))
local macro_rules | `(tactic| walk_at "ix") => `(tactic| (first
  | refine ix_tup (j := 0) rfl rfl ?_ | refine ix_tup (j := 1) rfl rfl ?_ | refine ix_tup (j := 2) rfl rfl ?_
  | refine ix_lst (j := 0) rfl rfl ?_ | refine ix_lst (j := 1) rfl rfl ?_ | refine ix_lst (j := 2) rfl rfl ?_
  | refine ix_own (k := 0) (j := 0) rfl rfl rfl ?_
  | refine ix_own (k := 0) (j := 1) rfl rfl rfl ?_
  | refine ix_own (k := 0) (j := 2) rfl rfl rfl ?_
  | refine ix_own (k := 1) (j := 0) rfl rfl rfl ?_
  | refine ix_own (k := 1) (j := 1) rfl rfl rfl ?_
  | refine ix_own (k := 1) (j := 2) rfl rfl rfl ?_
  | refine ix_own (k := 2) (j := 0) rfl rfl rfl ?_
  | refine ix_own (k := 2) (j := 1) rfl rfl rfl ?_
  | refine ix_own (k := 2) (j := 2) rfl rfl rfl ?_
  | refine ix_own (k := 3) (j := 0) rfl rfl rfl ?_
  | refine ix_own (k := 3) (j := 1) rfl rfl rfl ?_
  | refine ix_own (k := 3) (j := 2) rfl rfl rfl ?_
  | refine ix_own (k := 4) (j := 0) rfl rfl rfl ?_
  | refine ix_own (k := 4) (j := 1) rfl rfl rfl ?_
  | refine ix_own (k := 4) (j := 2) rfl rfl rfl ?_
  | refine ix_own (k := 5) (j := 0) rfl rfl rfl ?_
  | refine ix_own (k := 5) (j := 1) rfl rfl rfl ?_
  | refine ix_own (k := 5) (j := 2) rfl rfl rfl ?_
  | refine ix_own (k := 6) (j := 0) rfl rfl rfl ?_
  | refine ix_own (k := 6) (j := 1) rfl rfl rfl ?_
  | refine ix_own (k := 6) (j := 2) rfl rfl rfl ?_
  | refine ix_own (k := 7) (j := 0) rfl rfl rfl ?_
  | refine ix_own (k := 7) (j := 1) rfl rfl rfl ?_
  | refine ix_own (k := 7) (j := 2) rfl rfl rfl ?_
  | refine ix_own (k := 8) (j := 0) rfl rfl rfl ?_
  | refine ix_own (k := 8) (j := 1) rfl rfl rfl ?_
  | refine ix_own (k := 8) (j := 2) rfl rfl rfl ?_
  | refine ix_own (k := 9) (j := 0) rfl rfl rfl ?_
  | refine ix_own (k := 9) (j := 1) rfl rfl rfl ?_
  | refine ix_own (k := 9) (j := 2) rfl rfl rfl ?_
  | refine ix_own (k := 10) (j := 0) rfl rfl rfl ?_
  | refine ix_own (k := 10) (j := 1) rfl rfl rfl ?_
  | refine ix_own (k := 10) (j := 2) rfl rfl rfl ?_
  | refine ix_own (k := 11) (j := 0) rfl rfl rfl ?_
  | refine ix_own (k := 11) (j := 1) rfl rfl rfl ?_
  | refine ix_own (k := 11) (j := 2) rfl rfl rfl ?_
  | refine ix_own (k := 12) (j := 0) rfl rfl rfl ?_
  | refine ix_own (k := 12) (j := 1) rfl rfl rfl ?_
  | refine ix_own (k := 12) (j := 2) rfl rfl rfl ?_
  | refine ix_own (k := 13) (j := 0) rfl rfl rfl ?_
  | refine ix_own (k := 13) (j := 1) rfl rfl rfl ?_
  | refine ix_own (k := 13) (j := 2) rfl rfl rfl ?_))
local macro_rules | `(tactic| walk_at "seti") => `(tactic| (first
  | refine ⟨0, 0, _, _, _, rfl, rfl, rfl, rfl, of_decide_eq_true rfl, ?_⟩
  | refine ⟨0, 1, _, _, _, rfl, rfl, rfl, rfl, of_decide_eq_true rfl, ?_⟩
  | refine ⟨0, 2, _, _, _, rfl, rfl, rfl, rfl, of_decide_eq_true rfl, ?_⟩
  | refine ⟨1, 0, _, _, _, rfl, rfl, rfl, rfl, of_decide_eq_true rfl, ?_⟩
  | refine ⟨1, 1, _, _, _, rfl, rfl, rfl, rfl, of_decide_eq_true rfl, ?_⟩
  | refine ⟨1, 2, _, _, _, rfl, rfl, rfl, rfl, of_decide_eq_true rfl, ?_⟩
  | refine ⟨2, 0, _, _, _, rfl, rfl, rfl, rfl, of_decide_eq_true rfl, ?_⟩
  | refine ⟨2, 1, _, _, _, rfl, rfl, rfl, rfl, of_decide_eq_true rfl, ?_⟩
  | refine ⟨2, 2, _, _, _, rfl, rfl, rfl, rfl, of_decide_eq_true rfl, ?_⟩
  | refine ⟨3, 0, _, _, _, rfl, rfl, rfl, rfl, of_decide_eq_true rfl, ?_⟩
  | refine ⟨3, 1, _, _, _, rfl, rfl, rfl, rfl, of_decide_eq_true rfl, ?_⟩
  | refine ⟨3, 2, _, _, _, rfl, rfl, rfl, rfl, of_decide_eq_true rfl, ?_⟩
  | refine ⟨4, 0, _, _, _, rfl, rfl, rfl, rfl, of_decide_eq_true rfl, ?_⟩
  | refine ⟨4, 1, _, _, _, rfl, rfl, rfl, rfl, of_decide_eq_true rfl, ?_⟩
  | refine ⟨4, 2, _, _, _, rfl, rfl, rfl, rfl, of_decide_eq_true rfl, ?_⟩
  | refine ⟨5, 0, _, _, _, rfl, rfl, rfl, rfl, of_decide_eq_true rfl, ?_⟩
  | refine ⟨5, 1, _, _, _, rfl, rfl, rfl, rfl, of_decide_eq_true rfl, ?_⟩
  | refine ⟨5, 2, _, _, _, rfl, rfl, rfl, rfl, of_decide_eq_true rfl, ?_⟩
  | refine ⟨6, 0, _, _, _, rfl, rfl, rfl, rfl, of_decide_eq_true rfl, ?_⟩
  | refine ⟨6, 1, _, _, _, rfl, rfl, rfl, rfl, of_decide_eq_true rfl, ?_⟩
  | refine ⟨6, 2, _, _, _, rfl, rfl, rfl, rfl, of_decide_eq_true rfl, ?_⟩
  | refine ⟨7, 0, _, _, _, rfl, rfl, rfl, rfl, of_decide_eq_true rfl, ?_⟩
  | refine ⟨7, 1, _, _, _, rfl, rfl, rfl, rfl, of_decide_eq_true rfl, ?_⟩
  | refine ⟨7, 2, _, _, _, rfl, rfl, rfl, rfl, of_decide_eq_true rfl, ?_⟩
  | refine ⟨8, 0, _, _, _, rfl, rfl, rfl, rfl, of_decide_eq_true rfl, ?_⟩
  | refine ⟨8, 1, _, _, _, rfl, rfl, rfl, rfl, of_decide_eq_true rfl, ?_⟩
  | refine ⟨8, 2, _, _, _, rfl, rfl, rfl, rfl, of_decide_eq_true rfl, ?_⟩
  | refine ⟨9, 0, _, _, _, rfl, rfl, rfl, rfl, of_decide_eq_true rfl, ?_⟩
  | refine ⟨9, 1, _, _, _, rfl, rfl, rfl, rfl, of_decide_eq_true rfl, ?_⟩
  | refine ⟨9, 2, _, _, _, rfl, rfl, rfl, rfl, of_decide_eq_true rfl, ?_⟩
  | refine ⟨10, 0, _, _, _, rfl, rfl, rfl, rfl, of_decide_eq_true rfl, ?_⟩
  | refine ⟨10, 1, _, _, _, rfl, rfl, rfl, rfl, of_decide_eq_true rfl, ?_⟩
  | refine ⟨10, 2, _, _, _, rfl, rfl, rfl, rfl, of_decide_eq_true rfl, ?_⟩
  | refine ⟨11, 0, _, _, _, rfl, rfl, rfl, rfl, of_decide_eq_true rfl, ?_⟩
  | refine ⟨11, 1, _, _, _, rfl, rfl, rfl, rfl, of_decide_eq_true rfl, ?_⟩
  | refine ⟨11, 2, _, _, _, rfl, rfl, rfl, rfl, of_decide_eq_true rfl, ?_⟩
  | refine ⟨12, 0, _, _, _, rfl, rfl, rfl, rfl, of_decide_eq_true rfl, ?_⟩
  | refine ⟨12, 1, _, _, _, rfl, rfl, rfl, rfl, of_decide_eq_true rfl, ?_⟩
  | refine ⟨12, 2, _, _, _, rfl, rfl, rfl, rfl, of_decide_eq_true rfl, ?_⟩
  | refine ⟨13, 0, _, _, _, rfl, rfl, rfl, rfl, of_decide_eq_true rfl, ?_⟩
  | refine ⟨13, 1, _, _, _, rfl, rfl, rfl, rfl, of_decide_eq_true rfl, ?_⟩
  | refine ⟨13, 2, _, _, _, rfl, rfl, rfl, rfl, of_decide_eq_true rfl, ?_⟩))
local macro_rules | `(tactic| walk_at "lst") => `(tactic| (first
  | refine cd_list (.inr (.inr ⟨0, _, rfl, rfl⟩)) ?_
  | refine cd_list (.inr (.inr ⟨1, _, rfl, rfl⟩)) ?_
  | refine cd_list (.inr (.inr ⟨2, _, rfl, rfl⟩)) ?_
  | refine cd_list (.inr (.inr ⟨3, _, rfl, rfl⟩)) ?_
  | refine cd_list (.inr (.inr ⟨4, _, rfl, rfl⟩)) ?_
  | refine cd_list (.inr (.inr ⟨5, _, rfl, rfl⟩)) ?_
  | refine cd_list (.inr (.inr ⟨6, _, rfl, rfl⟩)) ?_
  | refine cd_list (.inr (.inr ⟨7, _, rfl, rfl⟩)) ?_
  | refine cd_list (.inr (.inr ⟨8, _, rfl, rfl⟩)) ?_
  | refine cd_list (.inr (.inr ⟨9, _, rfl, rfl⟩)) ?_
  | refine cd_list (.inr (.inr ⟨10, _, rfl, rfl⟩)) ?_
  | refine cd_list (.inr (.inr ⟨11, _, rfl, rfl⟩)) ?_
  | refine cd_list (.inr (.inr ⟨12, _, rfl, rfl⟩)) ?_
  | refine cd_list (.inr (.inr ⟨13, _, rfl, rfl⟩)) ?_))
local macro_rules | `(tactic| walk_at "isi") => `(tactic| (first | refine cd_isi (k := true) rfl (by decide +kernel) ?_ | refine cd_isi (k := false) rfl (by decide +kernel) ?_))
local macro_rules | `(tactic| walk_at "size") => `(tactic| (first
  | exact (show 0 ≤ sizeLine by decide) | exact (show 1 ≤ sizeLine by decide) | exact (show 2 ≤ sizeLine by decide) | exact (show 3 ≤ sizeLine by decide) | exact (show 4 ≤ sizeLine by decide) | exact (show 5 ≤ sizeLine by decide) | exact (show 6 ≤ sizeLine by decide) | exact (of_decide_eq_true rfl) | exact (Nat.le_of_ble_eq_true rfl)))
section
variable {P : Program} {w : World} {K : PySem.W.Frag} {mg : Str → Option Value} {base : Heap}
/-- names without blanks, numbers of at most eighteen figures -/
def Sm (n : Int) : Prop := n.natAbs < 10 ^ 18
theorem sm_len {n : Int} (h : Sm n) : (isS n).length ≤ 19 := isS_len (k := 18) (by decide) h
theorem sm_of {n : Int} (h1 : -1000 ≤ n) (h2 : n ≤ 1000) : Sm n := by
  unfold Sm
  have h3 : n.natAbs ≤ 1000 := by omega
  exact Nat.lt_of_le_of_lt h3 (by decide)
/-- the five classes -/
structure Cs where
  (go stop whi ifr see : Addr)
def WAYS : List Str := ["east", "north", "west", "south"]
/-- what the classes must say -/
structure RwC (K : PySem.W.Frag) (c : Cs) : Prop where
  go : Cls K c.go
  gw : NoAttr K c.go "way"
  gs : NoAttr K c.go "steps"
  stop : Cls K c.stop
  sr : NoAttr K c.stop "room"
  whi : Cls K c.whi
  wt : NoAttr K c.whi "test"
  wr : NoAttr K c.whi "rows"
  ifr : Cls K c.ifr
  it : NoAttr K c.ifr "test"
  ir : NoAttr K c.ifr "rows"
  io : NoAttr K c.ifr "others"
  see : Cls K c.see
  em : NoAttr K c.see "mark"
  er : NoAttr K c.see "rows"
  eo : NoAttr K c.see "others"
end
end Sl57
set_option Elab.async false
set_option linter.all false
set_option maxRecDepth 100000
set_option maxHeartbeats 4000000
namespace Sl57
open PySem PySem.Spec PyProof.Rows L2 Dt
set_option hygiene false
local macro_rules | `(tactic| walk_at "op") => `(tactic| (first
  | refine od_add ?_ | refine od_sub ?_ | refine od_lt ?_ | refine od_le ?_ | refine od_gt ?_ | refine od_ge ?_ | refine od_eq ?_ | refine od_ne ?_ | refine od_is ?_ | refine od_isn ?_
  | refine od_eqS ?_ | refine od_neS ?_ | refine od_eqB ?_ | refine od_neB ?_))
local macro_rules | `(tactic| walk_at "dead") => `(tactic| (first
  | (cases hb; done)
  | (exact absurd (show false = true from hb) (by decide))
  | (exact absurd (show true = false from hb) (by decide))
  | (exact absurd hb (by decide))
  | (exfalso; simp only [decide_eq_true_eq, decide_eq_false_iff_not, Bool.not_eq_true', Bool.not_eq_false'] at hb; omega)))
local macro_rules | `(tactic| walk_at "tidy") => `(tactic| (try simp only [decide_eq_true_eq, decide_eq_false_iff_not, Bool.not_eq_true', Bool.not_eq_false'] at hb))
local macro_rules | `(tactic| walk_at "truth") => `(tactic| (first | refine tr_bl ?_ | refine tr_lst ?_ | refine tr_tup ?_ | refine tr_non ?_ | refine tr_int ?_))
local macro_rules | `(tactic| walk_at "ix") => `(tactic| (first
  | refine ix_tup (j := 0) rfl rfl ?_ | refine ix_tup (j := 1) rfl rfl ?_ | refine ix_tup (j := 2) rfl rfl ?_
  | refine ix_lst (j := 0) rfl rfl ?_ | refine ix_lst (j := 1) rfl rfl ?_ | refine ix_lst (j := 2) rfl rfl ?_
  | refine ix_own (k := 0) (j := 0) rfl rfl rfl ?_
  | refine ix_own (k := 0) (j := 1) rfl rfl rfl ?_
  | refine ix_own (k := 0) (j := 2) rfl rfl rfl ?_
  | refine ix_own (k := 1) (j := 0) rfl rfl rfl ?_
  | refine ix_own (k := 1) (j := 1) rfl rfl rfl ?_
  | refine ix_own (k := 1) (j := 2) rfl rfl rfl ?_
  | refine ix_own (k := 2) (j := 0) rfl rfl rfl ?_
  | refine ix_own (k := 2) (j := 1) rfl rfl rfl ?_
  | refine ix_own (k := 2) (j := 2) rfl rfl rfl ?_
  | refine ix_own (k := 3) (j := 0) rfl rfl rfl ?_
  | refine ix_own (k := 3) (j := 1) rfl rfl rfl ?_
  | refine ix_own (k := 3) (j := 2) rfl rfl rfl ?_
  | refine ix_own (k := 4) (j := 0) rfl rfl rfl ?_
  | refine ix_own (k := 4) (j := 1) rfl rfl rfl ?_
  | refine ix_own (k := 4) (j := 2) rfl rfl rfl ?_
  | refine ix_own (k := 5) (j := 0) rfl rfl rfl ?_
  | refine ix_own (k := 5) (j := 1) rfl rfl rfl ?_
  | refine ix_own (k := 5) (j := 2) rfl rfl rfl ?_
  | refine ix_own (k := 6) (j := 0) rfl rfl rfl ?_
  | refine ix_own (k := 6) (j := 1) rfl rfl rfl ?_
  | refine ix_own (k := 6) (j := 2) rfl rfl rfl ?_
  | refine ix_own (k := 7) (j := 0) rfl rfl rfl ?_
  | refine ix_own (k := 7) (j := 1) rfl rfl rfl ?_
  | refine ix_own (k := 7) (j := 2) rfl rfl rfl ?_
  | refine ix_own (k := 8) (j := 0) rfl rfl rfl ?_
  | refine ix_own (k := 8) (j := 1) rfl rfl rfl ?_
  | refine ix_own (k := 8) (j := 2) rfl rfl rfl ?_
  | refine ix_own (k := 9) (j := 0) rfl rfl rfl ?_
  | refine ix_own (k := 9) (j := 1) rfl rfl rfl ?_
  | refine ix_own (k := 9) (j := 2) rfl rfl rfl ?_
  | refine ix_own (k := 10) (j := 0) rfl rfl rfl ?_
  | refine ix_own (k := 10) (j := 1) rfl rfl rfl ?_
  | refine ix_own (k := 10) (j := 2) rfl rfl rfl ?_
  | refine ix_own (k := 11) (j := 0) rfl rfl rfl ?_
  | refine ix_own (k := 11) (j := 1) rfl rfl rfl ?_
  | refine ix_own (k := 11) (j := 2) rfl rfl rfl ?_
  | refine ix_own (k := 12) (j := 0) rfl rfl rfl ?_
  | refine ix_own (k := 12) (j := 1) rfl rfl rfl ?_
  | refine ix_own (k := 12) (j := 2) rfl rfl rfl ?_
  | refine ix_own (k := 13) (j := 0) rfl rfl rfl ?_
  | refine ix_own (k := 13) (j := 1) rfl rfl rfl ?_
  | refine ix_own (k := 13) (j := 2) rfl rfl rfl ?_))
local macro_rules | `(tactic| walk_at "seti") => `(tactic| (first
  | refine ⟨0, 0, _, _, _, rfl, rfl, rfl, rfl, of_decide_eq_true rfl, ?_⟩
  | refine ⟨0, 1, _, _, _, rfl, rfl, rfl, rfl, of_decide_eq_true rfl, ?_⟩
  | refine ⟨0, 2, _, _, _, rfl, rfl, rfl, rfl, of_decide_eq_true rfl, ?_⟩
  | refine ⟨1, 0, _, _, _, rfl, rfl, rfl, rfl, of_decide_eq_true rfl, ?_⟩
  | refine ⟨1, 1, _, _, _, rfl, rfl, rfl, rfl, of_decide_eq_true rfl, ?_⟩
  | refine ⟨1, 2, _, _, _, rfl, rfl, rfl, rfl, of_decide_eq_true rfl, ?_⟩
  | refine ⟨2, 0, _, _, _, rfl, rfl, rfl, rfl, of_decide_eq_true rfl, ?_⟩
  | refine ⟨2, 1, _, _, _, rfl, rfl, rfl, rfl, of_decide_eq_true rfl, ?_⟩
  | refine ⟨2, 2, _, _, _, rfl, rfl, rfl, rfl, of_decide_eq_true rfl, ?_⟩
  | refine ⟨3, 0, _, _, _, rfl, rfl, rfl, rfl, of_decide_eq_true rfl, ?_⟩
  | refine ⟨3, 1, _, _, _, rfl, rfl, rfl, rfl, of_decide_eq_true rfl, ?_⟩
  | refine ⟨3, 2, _, _, _, rfl, rfl, rfl, rfl, of_decide_eq_true rfl, ?_⟩
  | refine ⟨4, 0, _, _, _, rfl, rfl, rfl, rfl, of_decide_eq_true rfl, ?_⟩
  | refine ⟨4, 1, _, _, _, rfl, rfl, rfl, rfl, of_decide_eq_true rfl, ?_⟩
  | refine ⟨4, 2, _, _, _, rfl, rfl, rfl, rfl, of_decide_eq_true rfl, ?_⟩
  | refine ⟨5, 0, _, _, _, rfl, rfl, rfl, rfl, of_decide_eq_true rfl, ?_⟩
  | refine ⟨5, 1, _, _, _, rfl, rfl, rfl, rfl, of_decide_eq_true rfl, ?_⟩
  | refine ⟨5, 2, _, _, _, rfl, rfl, rfl, rfl, of_decide_eq_true rfl, ?_⟩
  | refine ⟨6, 0, _, _, _, rfl, rfl, rfl, rfl, of_decide_eq_true rfl, ?_⟩
  | refine ⟨6, 1, _, _, _, rfl, rfl, rfl, rfl, of_decide_eq_true rfl, ?_⟩
  | refine ⟨6, 2, _, _, _, rfl, rfl, rfl, rfl, of_decide_eq_true rfl, ?_⟩
  | refine ⟨7, 0, _, _, _, rfl, rfl, rfl, rfl, of_decide_eq_true rfl, ?_⟩
  | refine ⟨7, 1, _, _, _, rfl, rfl, rfl, rfl, of_decide_eq_true rfl, ?_⟩
  | refine ⟨7, 2, _, _, _, rfl, rfl, rfl, rfl, of_decide_eq_true rfl, ?_⟩
  | refine ⟨8, 0, _, _, _, rfl, rfl, rfl, rfl, of_decide_eq_true rfl, ?_⟩
  | refine ⟨8, 1, _, _, _, rfl, rfl, rfl, rfl, of_decide_eq_true rfl, ?_⟩
  | refine ⟨8, 2, _, _, _, rfl, rfl, rfl, rfl, of_decide_eq_true rfl, ?_⟩
  | refine ⟨9, 0, _, _, _, rfl, rfl, rfl, rfl, of_decide_eq_true rfl, ?_⟩
  | refine ⟨9, 1, _, _, _, rfl, rfl, rfl, rfl, of_decide_eq_true rfl, ?_⟩
  | refine ⟨9, 2, _, _, _, rfl, rfl, rfl, rfl, of_decide_eq_true rfl, ?_⟩
  | refine ⟨10, 0, _, _, _, rfl, rfl, rfl, rfl, of_decide_eq_true rfl, ?_⟩
  | refine ⟨10, 1, _, _, _, rfl, rfl, rfl, rfl, of_decide_eq_true rfl, ?_⟩
  | refine ⟨10, 2, _, _, _, rfl, rfl, rfl, rfl, of_decide_eq_true rfl, ?_⟩
  | refine ⟨11, 0, _, _, _, rfl, rfl, rfl, rfl, of_decide_eq_true rfl, ?_⟩
  | refine ⟨11, 1, _, _, _, rfl, rfl, rfl, rfl, of_decide_eq_true rfl, ?_⟩
  | refine ⟨11, 2, _, _, _, rfl, rfl, rfl, rfl, of_decide_eq_true rfl, ?_⟩
  | refine ⟨12, 0, _, _, _, rfl, rfl, rfl, rfl, of_decide_eq_true rfl, ?_⟩
  | refine ⟨12, 1, _, _, _, rfl, rfl, rfl, rfl, of_decide_eq_true rfl, ?_⟩
  | refine ⟨12, 2, _, _, _, rfl, rfl, rfl, rfl, of_decide_eq_true rfl, ?_⟩
  | refine ⟨13, 0, _, _, _, rfl, rfl, rfl, rfl, of_decide_eq_true rfl, ?_⟩
  | refine ⟨13, 1, _, _, _, rfl, rfl, rfl, rfl, of_decide_eq_true rfl, ?_⟩
  | refine ⟨13, 2, _, _, _, rfl, rfl, rfl, rfl, of_decide_eq_true rfl, ?_⟩))
local macro_rules | `(tactic| walk_at "lst") => `(tactic| (first
  | refine cd_list (.inr (.inr ⟨0, _, rfl, rfl⟩)) ?_
  | refine cd_list (.inr (.inr ⟨1, _, rfl, rfl⟩)) ?_
  | refine cd_list (.inr (.inr ⟨2, _, rfl, rfl⟩)) ?_
  | refine cd_list (.inr (.inr ⟨3, _, rfl, rfl⟩)) ?_
  | refine cd_list (.inr (.inr ⟨4, _, rfl, rfl⟩)) ?_
  | refine cd_list (.inr (.inr ⟨5, _, rfl, rfl⟩)) ?_
  | refine cd_list (.inr (.inr ⟨6, _, rfl, rfl⟩)) ?_
  | refine cd_list (.inr (.inr ⟨7, _, rfl, rfl⟩)) ?_
  | refine cd_list (.inr (.inr ⟨8, _, rfl, rfl⟩)) ?_
  | refine cd_list (.inr (.inr ⟨9, _, rfl, rfl⟩)) ?_
  | refine cd_list (.inr (.inr ⟨10, _, rfl, rfl⟩)) ?_
  | refine cd_list (.inr (.inr ⟨11, _, rfl, rfl⟩)) ?_
  | refine cd_list (.inr (.inr ⟨12, _, rfl, rfl⟩)) ?_
  | refine cd_list (.inr (.inr ⟨13, _, rfl, rfl⟩)) ?_))
local macro_rules | `(tactic| walk_at "isi") => `(tactic| (first | refine cd_isi (k := true) rfl (by decide +kernel) ?_ | refine cd_isi (k := false) rfl (by decide +kernel) ?_))
local macro_rules | `(tactic| walk_at "size") => `(tactic| (first
  | exact (show 0 ≤ sizeLine by decide) | exact (show 1 ≤ sizeLine by decide) | exact (show 2 ≤ sizeLine by decide) | exact (show 3 ≤ sizeLine by decide) | exact (show 4 ≤ sizeLine by decide) | exact (show 5 ≤ sizeLine by decide) | exact (show 6 ≤ sizeLine by decide) | exact (of_decide_eq_true rfl) | exact (Nat.le_of_ble_eq_true rfl)))
section
variable {P : Program} {w : World} {K : PySem.W.Frag} {mg : Str → Option Value} {base : Heap}
def S_numIn : DS := fun ds M Φ => ∃ n : Int, ds = [.str (isS n)] ∧ Sm n ∧ Φ (.int n) M
theorem Dig.ne {y : Str} {a : Nat} (h : Dig y a) : decide (y = "") = false := decide_eq_false fun e => by
  have h1 := h.tl
  rw [e] at h1
  exact TL.numL_ne a h1.symm
theorem Dig.head {y : Str} {a : Nat} (h : Dig y a) : ∃ c, atI y.cps.toList 0 = some c ∧ (c = 48 → a = 0) := by
  have h1 : y.cps.toList = TL.numL a := h.tl
  cases e : TL.numL a with
  | nil => exact absurd e (TL.numL_ne a)
  | cons c r =>
    rw [h1, e]
    refine ⟨c, ?_, numL_head a e⟩
    unfold atI ixN
    rw [if_pos (by decide), if_pos (by rw [List.length_cons]; omega)]
    rfl
theorem c48 {c : Nat} (h : c ≠ 48) : decide ((⟨#[c]⟩ : Str) = "0") = false := decide_eq_false fun e => h (by
  have h1 := congrArg TL.tl e
  rw [show TL.tl (⟨#[c]⟩ : Str) = [c] from rfl, show TL.tl ("0" : Str) = [48] by decide +kernel] at h1
  exact (List.cons.inj h1).1)
theorem len1 {y : Str} {c : Nat} {r : List Nat} (h : TL.tl y = c :: r) : 1 ≤ y.length := by
  rw [TL.len_tl, h, List.length_cons]
  omega
theorem nonneg_cut {k : Nat} : decide (cutS (isS (k : Int)) none (some 1) = "-") = false := decide_eq_false fun e => by
  have h0 := isS_nat k
  cases en : TL.numL k with
  | nil => exact TL.numL_ne k en
  | cons c r =>
    rw [en] at h0
    have h1 := tl_cut1 (isS (k : Int)) (len1 h0)
    rw [e, h0, show TL.tl ("-" : Str) = [45] by decide +kernel] at h1
    have h2 : 45 = c := (List.cons.inj h1).1
    exact TL.numL_free (n := k) (s := 45) (by omega) (by rw [en, ← h2]; exact List.mem_cons_self)
theorem neg_cut {k : Nat} : decide (cutS (isS (Int.negSucc k)) none (some 1) = "-") = true := decide_eq_true (TL.ext_tl (by
  rw [tl_cut1 _ (len1 (isS_neg k)), isS_neg, show TL.tl ("-" : Str) = [45] by decide +kernel]
  rfl))
theorem neg_dig {k : Nat} : Dig (cutS (isS (Int.negSucc k)) (some 1) none) (k + 1) := ⟨by
  rw [tl_rest1 _ (len1 (isS_neg k)), isS_neg]
  rfl⟩
theorem nat_dig {k : Nat} : Dig (isS (k : Int)) k := ⟨isS_nat k⟩
theorem zero_is : isS (0 : Int) = "0" := by decide +kernel
abbrev s_number_in : Stmt := top 13
theorem sc_number_in : FnScope ["text", "digits", "sign"] ["text"] (defScope s_number_in) := ⟨rfl, rfl, rfl, by decide +kernel, rfl, by decide +kernel, by decide +kernel⟩
theorem ok_number_in {f : Addr} {fd : FuncData} (F : FunD K "number_in" "number_in" (defArgs s_number_in) (defBody s_number_in) (defScope s_number_in) [] [] f fd) (B : Bf mg) (hDg : ∃ t, mg "DIGITS" = some (.str digS t)) : FnOk P w K mg base CX0 1 f fd ["text"] (spOf K S_numIn) := by
  refine fn_data (k := 0) F sc_number_in (fun ds M Φ h => ?_) (fun cdv A outer s H E ds M Φ hr h => ?_)
  · obtain ⟨n, rfl, hs, q⟩ := h
    all_goals rfl
  · obtain ⟨n, rfl, hs, q⟩ := h
    have hl0 := sm_len hs
    have h5 : sizeLine = 2 ^ 24 := rfl
    have hzlen : (isS n).length ≤ sizeLine := by omega
    have hcs : (∃ k : Nat, n = (k : Int)) ∨ ∃ k : Nat, n = Int.negSucc k := by
      cases n with
      | ofNat k => exact .inl ⟨k, rfl⟩
      | negSucc k => exact .inr ⟨k, rfl⟩
    rcases hcs with ⟨k, rfl⟩ | ⟨k, rfl⟩
    · skip
      have hdg : Dig (isS (k : Int)) k := nat_dig
      have hylen : (isS (k : Int)).cps.size < sizeLine := Nat.lt_of_le_of_lt hl0 (by omega)
      obtain ⟨c, hat, hc0⟩ := hdg.head
      by_cases hc : c = 48
      · have hk0 : (k : Int) = 0 := by have := hc0 hc; omega
        have hc9 : decide ((⟨#[c]⟩ : Str) = "0") = true := by rw [hc]; decide +kernel
        refine ws_set 1 sc_number_in.nd ?_
        refine we_if ?_
        refine wt_cmp ?_ (nomark _)
        refine we_slS ?_
        refine wv 0 rfl ?_
        refine wo_none ?_
        refine wo_some ?_
        refine we_int ?_
        refine ⟨_, rfl, ?_⟩
        refine ⟨_, rfl, hzlen, ?_⟩
        refine we_str ?_
        refine od_eqS ?_
        rw [nonneg_cut]
        refine ⟨_, rfl, ?_⟩
        refine ⟨fun hb => ?_, fun hb => ?_⟩
        · walk_at "dead"
        · walk_at "tidy"
          refine wv 0 rfl ?_
          refine ws_if ?_
          refine wt_bool ?_
          refine ww_or ?_
          refine wt_cmp ?_ (nomark _)
          refine wv 1 rfl ?_
          refine we_str ?_
          refine od_eqS ?_
          rw [hdg.ne]
          refine ⟨_, rfl, ?_⟩
          refine ⟨fun hb => ?_, fun hb => ?_⟩
          · walk_at "dead"
          · walk_at "tidy"
            refine ww_or1 ?_
            refine wt_not ?_
            refine wt_val ?_ (by intro _; rfl)
            refine wcB B.all bt_all ?_
            refine wa_cons ?_
            refine lcMapS (own := [("sign", 2)]) (j := 2) sc_number_in.nd ?_ (blkOk_by (N := ["text", "digits", "sign"]) (sc := defScope s_number_in) (by decide +kernel)) (fun _ _ _ _ _ => pg_name (i := 2) sc_number_in.nd rfl (Or.inl rfl))
            refine wv 1 rfl ?_
            refine ⟨_, fun c => .bl (decide (c ∈ digS.cps.toList)), rfl, hylen, fun c hc l out s H C cl fp => ?_, ?_⟩
            · refine we_cmp ?_ (by rfl)
              refine wv 2 rfl ?_
              refine we_gstr hDg ?_
              refine od_inSign ?_
              exact ⟨rfl, rfl⟩
            rw [show ((isS (k : Int)).cps.toList.map fun c => D.bl (decide (c ∈ digS.cps.toList))) = ((isS (k : Int)).cps.toList.map fun c => decide (c ∈ digS.cps.toList)).map D.bl by rw [List.map_map]; rfl]
            refine wa_nil ?_
            refine cd_all rfl ?_
            rw [hdg.all]
            walk_at "truth"
            refine ⟨fun hb => ?_, fun hb => ?_⟩
            · walk_at "dead"
            · walk_at "tidy"
              refine ws_nil ?_
              refine ws_if ?_
              refine wt_bool ?_
              refine ww_and ?_
              refine wt_cmp ?_ (nomark _)
              refine we_ix ?_ (fun _ _ => rfl)
              refine wv 1 rfl ?_
              refine we_int ?_
              refine ix_strI (Nat.le_of_lt hylen) hat ?_
              refine we_str ?_
              refine od_eqS ?_
              rw [hc9]
              refine ⟨_, rfl, ?_⟩
              refine ⟨fun hb => ?_, fun hb => ?_⟩
              · walk_at "tidy"
                refine ww_and1 ?_
                refine wt_cmp ?_ (nomark _)
                refine wv 0 rfl ?_
                refine we_str ?_
                refine od_neS ?_
                rw [show decide (isS (k : Int) = "0") = true from decide_eq_true (by rw [hk0]; exact zero_is)]
                refine ⟨_, rfl, ?_⟩
                refine ⟨fun hb => ?_, fun hb => ?_⟩
                · walk_at "dead"
                · walk_at "tidy"
                  refine ws_nil ?_
                  refine ws_ret ?_
                  refine wcT B.int boot_int ?_
                  refine wa_cons ?_
                  refine wv 0 rfl ?_
                  refine wa_nil ?_
                  refine cd_intS (isS_int hs) (by omega) ?_
                  exact q
              · walk_at "dead"
      · skip
        refine ws_set 1 sc_number_in.nd ?_
        refine we_if ?_
        refine wt_cmp ?_ (nomark _)
        refine we_slS ?_
        refine wv 0 rfl ?_
        refine wo_none ?_
        refine wo_some ?_
        refine we_int ?_
        refine ⟨_, rfl, ?_⟩
        refine ⟨_, rfl, hzlen, ?_⟩
        refine we_str ?_
        refine od_eqS ?_
        rw [nonneg_cut]
        refine ⟨_, rfl, ?_⟩
        refine ⟨fun hb => ?_, fun hb => ?_⟩
        · walk_at "dead"
        · walk_at "tidy"
          refine wv 0 rfl ?_
          refine ws_if ?_
          refine wt_bool ?_
          refine ww_or ?_
          refine wt_cmp ?_ (nomark _)
          refine wv 1 rfl ?_
          refine we_str ?_
          refine od_eqS ?_
          rw [hdg.ne]
          refine ⟨_, rfl, ?_⟩
          refine ⟨fun hb => ?_, fun hb => ?_⟩
          · walk_at "dead"
          · walk_at "tidy"
            refine ww_or1 ?_
            refine wt_not ?_
            refine wt_val ?_ (by intro _; rfl)
            refine wcB B.all bt_all ?_
            refine wa_cons ?_
            refine lcMapS (own := [("sign", 2)]) (j := 2) sc_number_in.nd ?_ (blkOk_by (N := ["text", "digits", "sign"]) (sc := defScope s_number_in) (by decide +kernel)) (fun _ _ _ _ _ => pg_name (i := 2) sc_number_in.nd rfl (Or.inl rfl))
            refine wv 1 rfl ?_
            refine ⟨_, fun c => .bl (decide (c ∈ digS.cps.toList)), rfl, hylen, fun c hc l out s H C cl fp => ?_, ?_⟩
            · refine we_cmp ?_ (by rfl)
              refine wv 2 rfl ?_
              refine we_gstr hDg ?_
              refine od_inSign ?_
              exact ⟨rfl, rfl⟩
            rw [show ((isS (k : Int)).cps.toList.map fun c => D.bl (decide (c ∈ digS.cps.toList))) = ((isS (k : Int)).cps.toList.map fun c => decide (c ∈ digS.cps.toList)).map D.bl by rw [List.map_map]; rfl]
            refine wa_nil ?_
            refine cd_all rfl ?_
            rw [hdg.all]
            walk_at "truth"
            refine ⟨fun hb => ?_, fun hb => ?_⟩
            · walk_at "dead"
            · walk_at "tidy"
              refine ws_nil ?_
              refine ws_if ?_
              refine wt_bool ?_
              refine ww_and ?_
              refine wt_cmp ?_ (nomark _)
              refine we_ix ?_ (fun _ _ => rfl)
              refine wv 1 rfl ?_
              refine we_int ?_
              refine ix_strI (Nat.le_of_lt hylen) hat ?_
              refine we_str ?_
              refine od_eqS ?_
              rw [c48 hc]
              refine ⟨_, rfl, ?_⟩
              refine ⟨fun hb => ?_, fun hb => ?_⟩
              · walk_at "dead"
              · walk_at "tidy"
                refine ⟨fun hb => ?_, fun hb => ?_⟩
                · walk_at "dead"
                · walk_at "tidy"
                  refine ws_nil ?_
                  refine ws_ret ?_
                  refine wcT B.int boot_int ?_
                  refine wa_cons ?_
                  refine wv 0 rfl ?_
                  refine wa_nil ?_
                  refine cd_intS (isS_int hs) (by omega) ?_
                  exact q
    · skip
      have hdg : Dig (cutS (isS (Int.negSucc k)) (some 1) none) (k + 1) := neg_dig
      have hylen : (cutS (isS (Int.negSucc k)) (some 1) none).cps.size < sizeLine := Nat.lt_of_le_of_lt (cutS_length _ _ _) (by omega)
      obtain ⟨c, hat, hc0⟩ := hdg.head
      have hc : c ≠ 48 := fun e => by have := hc0 e; omega
      refine ws_set 1 sc_number_in.nd ?_
      refine we_if ?_
      refine wt_cmp ?_ (nomark _)
      refine we_slS ?_
      refine wv 0 rfl ?_
      refine wo_none ?_
      refine wo_some ?_
      refine we_int ?_
      refine ⟨_, rfl, ?_⟩
      refine ⟨_, rfl, hzlen, ?_⟩
      refine we_str ?_
      refine od_eqS ?_
      rw [neg_cut]
      refine ⟨_, rfl, ?_⟩
      refine ⟨fun hb => ?_, fun hb => ?_⟩
      · walk_at "tidy"
        refine we_slS ?_
        refine wv 0 rfl ?_
        refine wo_some ?_
        refine we_int ?_
        refine ⟨_, rfl, ?_⟩
        refine wo_none ?_
        refine ⟨_, rfl, hzlen, ?_⟩
        refine ws_if ?_
        refine wt_bool ?_
        refine ww_or ?_
        refine wt_cmp ?_ (nomark _)
        refine wv 1 rfl ?_
        refine we_str ?_
        refine od_eqS ?_
        rw [hdg.ne]
        refine ⟨_, rfl, ?_⟩
        refine ⟨fun hb => ?_, fun hb => ?_⟩
        · walk_at "dead"
        · walk_at "tidy"
          refine ww_or1 ?_
          refine wt_not ?_
          refine wt_val ?_ (by intro _; rfl)
          refine wcB B.all bt_all ?_
          refine wa_cons ?_
          refine lcMapS (own := [("sign", 2)]) (j := 2) sc_number_in.nd ?_ (blkOk_by (N := ["text", "digits", "sign"]) (sc := defScope s_number_in) (by decide +kernel)) (fun _ _ _ _ _ => pg_name (i := 2) sc_number_in.nd rfl (Or.inl rfl))
          refine wv 1 rfl ?_
          refine ⟨_, fun c => .bl (decide (c ∈ digS.cps.toList)), rfl, hylen, fun c hc l out s H C cl fp => ?_, ?_⟩
          · refine we_cmp ?_ (by rfl)
            refine wv 2 rfl ?_
            refine we_gstr hDg ?_
            refine od_inSign ?_
            exact ⟨rfl, rfl⟩
          rw [show ((cutS (isS (Int.negSucc k)) (some 1) none).cps.toList.map fun c => D.bl (decide (c ∈ digS.cps.toList))) = ((cutS (isS (Int.negSucc k)) (some 1) none).cps.toList.map fun c => decide (c ∈ digS.cps.toList)).map D.bl by rw [List.map_map]; rfl]
          refine wa_nil ?_
          refine cd_all rfl ?_
          rw [hdg.all]
          walk_at "truth"
          refine ⟨fun hb => ?_, fun hb => ?_⟩
          · walk_at "dead"
          · walk_at "tidy"
            refine ws_nil ?_
            refine ws_if ?_
            refine wt_bool ?_
            refine ww_and ?_
            refine wt_cmp ?_ (nomark _)
            refine we_ix ?_ (fun _ _ => rfl)
            refine wv 1 rfl ?_
            refine we_int ?_
            refine ix_strI (Nat.le_of_lt hylen) hat ?_
            refine we_str ?_
            refine od_eqS ?_
            rw [c48 hc]
            refine ⟨_, rfl, ?_⟩
            refine ⟨fun hb => ?_, fun hb => ?_⟩
            · walk_at "dead"
            · walk_at "tidy"
              refine ⟨fun hb => ?_, fun hb => ?_⟩
              · walk_at "dead"
              · walk_at "tidy"
                refine ws_nil ?_
                refine ws_ret ?_
                refine wcT B.int boot_int ?_
                refine wa_cons ?_
                refine wv 0 rfl ?_
                refine wa_nil ?_
                refine cd_intS (isS_int hs) (by omega) ?_
                exact q
      · walk_at "dead"
theorem blank1 : ((" " : Str).length == 0) = false := by decide +kernel
def S_is_seq : DS := fun ds M Φ => ∃ d t, ds = [d] ∧ tyD d = some t ∧ Φ (.bl (t == "list" || t == "tuple")) M
/-- each class is a row -/
structure RwI (K : PySem.W.Frag) (c : Cs) (R : Addr) : Prop where
  go : IsF K c.go
  gr : PySem.W.kitOne K (.ref c.go) (.ref R) = some true
  stop : IsF K c.stop
  sr : PySem.W.kitOne K (.ref c.stop) (.ref R) = some true
  whi : IsF K c.whi
  wr : PySem.W.kitOne K (.ref c.whi) (.ref R) = some true
  ifr : IsF K c.ifr
  ir : PySem.W.kitOne K (.ref c.ifr) (.ref R) = some true
  see : IsF K c.see
  er : PySem.W.kitOne K (.ref c.see) (.ref R) = some true
structure PG2 (K : PySem.W.Frag) (mg : Str → Option Value) : Prop where
  most : ∃ t, mg "MOST_STEPS" = some (.int 9 t)
  ways : ∃ a, mg "WAYS" = some (.ref a) ∧ ∀ H : Hp, SqT K H a (WAYS.map V.str)
abbrev s_is_sequence : Stmt := top 11
theorem sc_is_sequence : FnScope ["value"] ["value"] (defScope s_is_sequence) := ⟨rfl, rfl, rfl, by decide +kernel, rfl, by decide +kernel, by decide +kernel⟩
theorem ok_is_sequence {f : Addr} {fd : FuncData} (F : FunD K "is_sequence" "is_sequence" (defArgs s_is_sequence) (defBody s_is_sequence) (defScope s_is_sequence) [] [] f fd) (B : Bf mg) : FnOk P w K mg base CX0 1 f fd ["value"] (spOf K S_is_seq) := by
  refine fn_data (k := 0) F sc_is_sequence (fun ds M Φ h => ?_) (fun cdv A outer s H E ds M Φ hr h => ?_)
  · obtain ⟨d, t, rfl, ht, q⟩ := h
    all_goals rfl
  · obtain ⟨d, t, rfl, ht, q⟩ := h
    cases d with
    | ty n => cases ht
    | obj C fs => cases ht
    | adr a => cases ht
    | dic ks => cases ht
    | exc a b c d => cases ht
    | exv a b => cases ht
    | dcs a => cases ht
    | _ =>
      refine ws_ret ?_
      refine wcB B.isi boot_isinstance ?_
      refine wa_cons ?_
      refine wv 0 rfl ?_
      refine wa_cons ?_
      refine we_tup ?_
      refine wa_cons ?_
      refine wbt B.list boot_list ?_
      refine wa_cons ?_
      refine wbt B.tuple boot_tuple ?_
      refine wa_nil ?_
      refine ⟨(by walk_at "size"), ?_⟩
      refine wa_nil ?_
      first
      | refine cd_isiTT (ka := true) (kb := false) rfl (by decide +kernel) (by decide +kernel) ?_
      | refine cd_isiTT (ka := false) (kb := true) rfl (by decide +kernel) (by decide +kernel) ?_
      | refine cd_isiTT (ka := false) (kb := false) rfl (by decide +kernel) (by decide +kernel) ?_
      cases ht
      exact q
abbrev s_is_test : Stmt := top 17
theorem sc_is_test : FnScope ["value", "words"] ["value"] (defScope s_is_test) := ⟨rfl, rfl, rfl, by decide +kernel, rfl, by decide +kernel, by decide +kernel⟩
abbrev s_are_rows : Stmt := top 19
theorem sc_are_rows : FnScope ["value", "row"] ["value"] (defScope s_are_rows) := ⟨rfl, rfl, rfl, by decide +kernel, rfl, by decide +kernel, by decide +kernel⟩
abbrev s_Go_init : Stmt := inClass (top 21) 0
theorem sc_Go_init : FnScope ["self", "way", "steps"] ["self", "way", "steps"] (defScope s_Go_init) := ⟨rfl, rfl, rfl, by decide +kernel, rfl, by decide +kernel, by decide +kernel⟩
abbrev s_Stop_init : Stmt := inClass (top 25) 0
theorem sc_Stop_init : FnScope ["self", "room"] ["self", "room"] (defScope s_Stop_init) := ⟨rfl, rfl, rfl, by decide +kernel, rfl, by decide +kernel, by decide +kernel⟩
abbrev s_If_init : Stmt := inClass (top 22) 0
theorem sc_If_init : FnScope ["self", "test", "rows", "others"] ["self", "test", "rows", "others"] (defScope s_If_init) := ⟨rfl, rfl, rfl, by decide +kernel, rfl, by decide +kernel, by decide +kernel⟩
abbrev s_See_init : Stmt := inClass (top 24) 0
theorem sc_See_init : FnScope ["self", "mark", "rows", "others"] ["self", "mark", "rows", "others"] (defScope s_See_init) := ⟨rfl, rfl, rfl, by decide +kernel, rfl, by decide +kernel, by decide +kernel⟩
abbrev s_While_init : Stmt := inClass (top 23) 0
theorem sc_While_init : FnScope ["self", "test", "rows"] ["self", "test", "rows"] (defScope s_While_init) := ⟨rfl, rfl, rfl, by decide +kernel, rfl, by decide +kernel, by decide +kernel⟩
end
end Sl57
set_option Elab.async false
set_option linter.all false
set_option maxRecDepth 100000
set_option maxHeartbeats 4000000
namespace Sl57
open PySem PySem.Spec PyProof.Rows L2 Dt
set_option hygiene false
local macro_rules | `(tactic| walk_at "op") => `(tactic| (first
  | refine od_add ?_ | refine od_sub ?_ | refine od_lt ?_ | refine od_le ?_ | refine od_gt ?_ | refine od_ge ?_ | refine od_eq ?_ | refine od_ne ?_ | refine od_is ?_ | refine od_isn ?_
  | refine od_eqS ?_ | refine od_neS ?_ | refine od_eqB ?_ | refine od_neB ?_))
local macro_rules | `(tactic| walk_at "dead") => `(tactic| (first
  | (cases hb; done)
  | (exact absurd (show false = true from hb) (by decide))
  | (exact absurd (show true = false from hb) (by decide))
  | (exact absurd hb (by decide))
  | (exfalso; simp only [decide_eq_true_eq, decide_eq_false_iff_not, Bool.not_eq_true', Bool.not_eq_false'] at hb; omega)))
local macro_rules | `(tactic| walk_at "tidy") => `(tactic| (try simp only [decide_eq_true_eq, decide_eq_false_iff_not, Bool.not_eq_true', Bool.not_eq_false'] at hb))
local macro_rules | `(tactic| walk_at "truth") => `(tactic| (first | refine tr_bl ?_ | refine tr_lst ?_ | refine tr_tup ?_ | refine tr_non ?_ | refine tr_int ?_))
local macro_rules | `(tactic| walk_at "ix") => `(tactic| (first
  | refine ix_tup (j := 0) rfl rfl ?_ | refine ix_tup (j := 1) rfl rfl ?_ | refine ix_tup (j := 2) rfl rfl ?_
  | refine ix_lst (j := 0) rfl rfl ?_ | refine ix_lst (j := 1) rfl rfl ?_ | refine ix_lst (j := 2) rfl rfl ?_
  | refine ix_own (k := 0) (j := 0) rfl rfl rfl ?_
  | refine ix_own (k := 0) (j := 1) rfl rfl rfl ?_
  | refine ix_own (k := 0) (j := 2) rfl rfl rfl ?_
  | refine ix_own (k := 1) (j := 0) rfl rfl rfl ?_
  | refine ix_own (k := 1) (j := 1) rfl rfl rfl ?_
  | refine ix_own (k := 1) (j := 2) rfl rfl rfl ?_
  | refine ix_own (k := 2) (j := 0) rfl rfl rfl ?_
  | refine ix_own (k := 2) (j := 1) rfl rfl rfl ?_
  | refine ix_own (k := 2) (j := 2) rfl rfl rfl ?_
  | refine ix_own (k := 3) (j := 0) rfl rfl rfl ?_
  | refine ix_own (k := 3) (j := 1) rfl rfl rfl ?_
  | refine ix_own (k := 3) (j := 2) rfl rfl rfl ?_
  | refine ix_own (k := 4) (j := 0) rfl rfl rfl ?_
  | refine ix_own (k := 4) (j := 1) rfl rfl rfl ?_
  | refine ix_own (k := 4) (j := 2) rfl rfl rfl ?_
  | refine ix_own (k := 5) (j := 0) rfl rfl rfl ?_
  | refine ix_own (k := 5) (j := 1) rfl rfl rfl ?_
  | refine ix_own (k := 5) (j := 2) rfl rfl rfl ?_
  | refine ix_own (k := 6) (j := 0) rfl rfl rfl ?_
  | refine ix_own (k := 6) (j := 1) rfl rfl rfl ?_
  | refine ix_own (k := 6) (j := 2) rfl rfl rfl ?_
  | refine ix_own (k := 7) (j := 0) rfl rfl rfl ?_
  | refine ix_own (k := 7) (j := 1) rfl rfl rfl ?_
  | refine ix_own (k := 7) (j := 2) rfl rfl rfl ?_
  | refine ix_own (k := 8) (j := 0) rfl rfl rfl ?_
  | refine ix_own (k := 8) (j := 1) rfl rfl rfl ?_
  | refine ix_own (k := 8) (j := 2) rfl rfl rfl ?_
  | refine ix_own (k := 9) (j := 0) rfl rfl rfl ?_
  | refine ix_own (k := 9) (j := 1) rfl rfl rfl ?_
  | refine ix_own (k := 9) (j := 2) rfl rfl rfl ?_
  | refine ix_own (k := 10) (j := 0) rfl rfl rfl ?_
  | refine ix_own (k := 10) (j := 1) rfl rfl rfl ?_
  | refine ix_own (k := 10) (j := 2) rfl rfl rfl ?_
  | refine ix_own (k := 11) (j := 0) rfl rfl rfl ?_
  | refine ix_own (k := 11) (j := 1) rfl rfl rfl ?_
  | refine ix_own (k := 11) (j := 2) rfl rfl rfl ?_
  | refine ix_own (k := 12) (j := 0) rfl rfl rfl ?_
  | refine ix_own (k := 12) (j := 1) rfl rfl rfl ?_
  | refine ix_own (k := 12) (j := 2) rfl rfl rfl ?_
  | refine ix_own (k := 13) (j := 0) rfl rfl rfl ?_
  | refine ix_own (k := 13) (j := 1) rfl rfl rfl ?_
  | refine ix_own (k := 13) (j := 2) rfl rfl rfl ?_))
local macro_rules | `(tactic| walk_at "seti") => `(tactic| (first
  | refine ⟨0, 0, _, _, _, rfl, rfl, rfl, rfl, of_decide_eq_true rfl, ?_⟩
  | refine ⟨0, 1, _, _, _, rfl, rfl, rfl, rfl, of_decide_eq_true rfl, ?_⟩
  | refine ⟨0, 2, _, _, _, rfl, rfl, rfl, rfl, of_decide_eq_true rfl, ?_⟩
  | refine ⟨1, 0, _, _, _, rfl, rfl, rfl, rfl, of_decide_eq_true rfl, ?_⟩
  | refine ⟨1, 1, _, _, _, rfl, rfl, rfl, rfl, of_decide_eq_true rfl, ?_⟩
  | refine ⟨1, 2, _, _, _, rfl, rfl, rfl, rfl, of_decide_eq_true rfl, ?_⟩
  | refine ⟨2, 0, _, _, _, rfl, rfl, rfl, rfl, of_decide_eq_true rfl, ?_⟩
  | refine ⟨2, 1, _, _, _, rfl, rfl, rfl, rfl, of_decide_eq_true rfl, ?_⟩
  | refine ⟨2, 2, _, _, _, rfl, rfl, rfl, rfl, of_decide_eq_true rfl, ?_⟩
  | refine ⟨3, 0, _, _, _, rfl, rfl, rfl, rfl, of_decide_eq_true rfl, ?_⟩
  | refine ⟨3, 1, _, _, _, rfl, rfl, rfl, rfl, of_decide_eq_true rfl, ?_⟩
  | refine ⟨3, 2, _, _, _, rfl, rfl, rfl, rfl, of_decide_eq_true rfl, ?_⟩
  | refine ⟨4, 0, _, _, _, rfl, rfl, rfl, rfl, of_decide_eq_true rfl, ?_⟩
  | refine ⟨4, 1, _, _, _, rfl, rfl, rfl, rfl, of_decide_eq_true rfl, ?_⟩
  | refine ⟨4, 2, _, _, _, rfl, rfl, rfl, rfl, of_decide_eq_true rfl, ?_⟩
  | refine ⟨5, 0, _, _, _, rfl, rfl, rfl, rfl, of_decide_eq_true rfl, ?_⟩
  | refine ⟨5, 1, _, _, _, rfl, rfl, rfl, rfl, of_decide_eq_true rfl, ?_⟩
  | refine ⟨5, 2, _, _, _, rfl, rfl, rfl, rfl, of_decide_eq_true rfl, ?_⟩
  | refine ⟨6, 0, _, _, _, rfl, rfl, rfl, rfl, of_decide_eq_true rfl, ?_⟩
  | refine ⟨6, 1, _, _, _, rfl, rfl, rfl, rfl, of_decide_eq_true rfl, ?_⟩
  | refine ⟨6, 2, _, _, _, rfl, rfl, rfl, rfl, of_decide_eq_true rfl, ?_⟩
  | refine ⟨7, 0, _, _, _, rfl, rfl, rfl, rfl, of_decide_eq_true rfl, ?_⟩
  | refine ⟨7, 1, _, _, _, rfl, rfl, rfl, rfl, of_decide_eq_true rfl, ?_⟩
  | refine ⟨7, 2, _, _, _, rfl, rfl, rfl, rfl, of_decide_eq_true rfl, ?_⟩
  | refine ⟨8, 0, _, _, _, rfl, rfl, rfl, rfl, of_decide_eq_true rfl, ?_⟩
  | refine ⟨8, 1, _, _, _, rfl, rfl, rfl, rfl, of_decide_eq_true rfl, ?_⟩
  | refine ⟨8, 2, _, _, _, rfl, rfl, rfl, rfl, of_decide_eq_true rfl, ?_⟩
  | refine ⟨9, 0, _, _, _, rfl, rfl, rfl, rfl, of_decide_eq_true rfl, ?_⟩
  | refine ⟨9, 1, _, _, _, rfl, rfl, rfl, rfl, of_decide_eq_true rfl, ?_⟩
  | refine ⟨9, 2, _, _, _, rfl, rfl, rfl, rfl, of_decide_eq_true rfl, ?_⟩
  | refine ⟨10, 0, _, _, _, rfl, rfl, rfl, rfl, of_decide_eq_true rfl, ?_⟩
  | refine ⟨10, 1, _, _, _, rfl, rfl, rfl, rfl, of_decide_eq_true rfl, ?_⟩
  | refine ⟨10, 2, _, _, _, rfl, rfl, rfl, rfl, of_decide_eq_true rfl, ?_⟩
  | refine ⟨11, 0, _, _, _, rfl, rfl, rfl, rfl, of_decide_eq_true rfl, ?_⟩
  | refine ⟨11, 1, _, _, _, rfl, rfl, rfl, rfl, of_decide_eq_true rfl, ?_⟩
  | refine ⟨11, 2, _, _, _, rfl, rfl, rfl, rfl, of_decide_eq_true rfl, ?_⟩
  | refine ⟨12, 0, _, _, _, rfl, rfl, rfl, rfl, of_decide_eq_true rfl, ?_⟩
  | refine ⟨12, 1, _, _, _, rfl, rfl, rfl, rfl, of_decide_eq_true rfl, ?_⟩
  | refine ⟨12, 2, _, _, _, rfl, rfl, rfl, rfl, of_decide_eq_true rfl, ?_⟩
  | refine ⟨13, 0, _, _, _, rfl, rfl, rfl, rfl, of_decide_eq_true rfl, ?_⟩
  | refine ⟨13, 1, _, _, _, rfl, rfl, rfl, rfl, of_decide_eq_true rfl, ?_⟩
  | refine ⟨13, 2, _, _, _, rfl, rfl, rfl, rfl, of_decide_eq_true rfl, ?_⟩))
local macro_rules | `(tactic| walk_at "lst") => `(tactic| (first
  | refine cd_list (.inr (.inr ⟨0, _, rfl, rfl⟩)) ?_
  | refine cd_list (.inr (.inr ⟨1, _, rfl, rfl⟩)) ?_
  | refine cd_list (.inr (.inr ⟨2, _, rfl, rfl⟩)) ?_
  | refine cd_list (.inr (.inr ⟨3, _, rfl, rfl⟩)) ?_
  | refine cd_list (.inr (.inr ⟨4, _, rfl, rfl⟩)) ?_
  | refine cd_list (.inr (.inr ⟨5, _, rfl, rfl⟩)) ?_
  | refine cd_list (.inr (.inr ⟨6, _, rfl, rfl⟩)) ?_
  | refine cd_list (.inr (.inr ⟨7, _, rfl, rfl⟩)) ?_
  | refine cd_list (.inr (.inr ⟨8, _, rfl, rfl⟩)) ?_
  | refine cd_list (.inr (.inr ⟨9, _, rfl, rfl⟩)) ?_
  | refine cd_list (.inr (.inr ⟨10, _, rfl, rfl⟩)) ?_
  | refine cd_list (.inr (.inr ⟨11, _, rfl, rfl⟩)) ?_
  | refine cd_list (.inr (.inr ⟨12, _, rfl, rfl⟩)) ?_
  | refine cd_list (.inr (.inr ⟨13, _, rfl, rfl⟩)) ?_))
local macro_rules | `(tactic| walk_at "isi") => `(tactic| (first | refine cd_isi (k := true) rfl (by decide +kernel) ?_ | refine cd_isi (k := false) rfl (by decide +kernel) ?_))
local macro_rules | `(tactic| walk_at "size") => `(tactic| (first
  | exact (show 0 ≤ sizeLine by decide) | exact (show 1 ≤ sizeLine by decide) | exact (show 2 ≤ sizeLine by decide) | exact (show 3 ≤ sizeLine by decide) | exact (show 4 ≤ sizeLine by decide) | exact (show 5 ≤ sizeLine by decide) | exact (show 6 ≤ sizeLine by decide) | exact (of_decide_eq_true rfl) | exact (Nat.le_of_ble_eq_true rfl)))
section
variable {P : Program} {w : World} {K : PySem.W.Frag} {mg : Str → Option Value} {base : Heap}
open PySem.NumText
def RoomQ (K : PySem.W.Frag) (CR : Addr) (y : D) (b : Bool) : Prop := (∃ t, tyD y = some t ∧ PySem.W.kitOne K (.type t) (.ref CR) = some b) ∨ ∃ C fs, y = .obj C fs ∧ IsF K C ∧ PySem.W.kitOne K (.ref C) (.ref CR) = some b
def S_areN : DS := fun ds M Φ => ∃ d t, ds = [d] ∧ tyD d = some t ∧ (t == "list" || t == "tuple") = false ∧ Φ (.bl false) M
def S_areS (K : PySem.W.Frag) (CR : Addr) (con : List D → D) : DS := fun ds M Φ => ∃ (xs : List D) (r : D → Bool), ds = [con xs] ∧ xs.length < sizeLine ∧ (∀ y, y ∈ xs → RoomQ K CR y (r y)) ∧ Φ (.bl ((xs.map r).all id)) M
def S_is_seqO (K : PySem.W.Frag) : DS := fun ds M Φ => ∃ C fs, ds = [.obj C fs] ∧ IsF K C ∧ PySem.W.kitOne K (.ref C) (.type "list") = some false ∧ PySem.W.kitOne K (.ref C) (.type "tuple") = some false ∧ Φ (.bl false) M
def AreQ (K : PySem.W.Frag) (CR : Addr) (d : D) (b : Bool) : Prop := (∃ t, tyD d = some t ∧ (t == "list" || t == "tuple") = false ∧ b = false) ∨ (∃ (xs : List D) (r : D → Bool), (d = .lst xs ∨ d = .tup xs) ∧ xs.length < sizeLine ∧ (∀ y, y ∈ xs → RoomQ K CR y (r y)) ∧ b = (xs.map r).all id) ∨ (∃ C fs, d = .obj C fs ∧ IsF K C ∧ PySem.W.kitOne K (.ref C) (.type "list") = some false ∧ PySem.W.kitOne K (.ref C) (.type "tuple") = some false ∧ b = false)
def S_areO (K : PySem.W.Frag) : DS := fun ds M Φ => ∃ C fs, ds = [.obj C fs] ∧ IsF K C ∧ PySem.W.kitOne K (.ref C) (.type "list") = some false ∧ PySem.W.kitOne K (.ref C) (.type "tuple") = some false ∧ Φ (.bl false) M
def S_areR (K : PySem.W.Frag) (CR : Addr) : DS := fun ds M Φ => ∃ d b, ds = [d] ∧ AreQ K CR d b ∧ Φ (.bl b) M
theorem areR_or {K : PySem.W.Frag} {CR : Addr} {ds : List D} {M : Mem} {Φ : VP} (h : S_areR K CR ds M Φ) : (S_areN ds M Φ ∨ S_areO K ds M Φ) ∨ (S_areS K CR .lst ds M Φ ∨ S_areS K CR .tup ds M Φ) := by
  obtain ⟨d, b, rfl, (⟨t, h1, h2, rfl⟩ | ⟨xs, r, (rfl | rfl), hl, hq, rfl⟩ | ⟨C, fs, rfl, h1, h2, h3, rfl⟩), q⟩ := h
  · exact .inl (.inl ⟨d, t, rfl, h1, h2, q⟩)
  · exact .inr (.inl ⟨xs, r, rfl, hl, hq, q⟩)
  · exact .inr (.inr ⟨xs, r, rfl, hl, hq, q⟩)
  · exact .inl (.inr ⟨C, fs, rfl, h1, h2, h3, q⟩)
def isSt : D → Bool
  | .str _ => true
  | _ => false
theorem cd_isSt {X : Cx} {M : Mem} {Φ : VP} {d : D} {t : String} (ht : tyD d = some t) (q : Φ (.bl (isSt d)) M) : CaD X (.builtin "isinstance") [d, .ty "str"] M Φ := by
  cases d <;> first | (cases ht; exact cd_isi (k := false) rfl (by decide +kernel) q) | (cases ht; exact cd_isi (k := true) rfl (by decide +kernel) q) | cases ht
def firstW : List (Str × Bool) → Option Str
  | [] => none
  | (w, b) :: l => if b then firstW l else some w
def WayQ (d : D) (b : Bool) : Prop := (∃ x, d = .str x ∧ b = decide (x ∈ WAYS)) ∨ (isSt d = false ∧ (∃ t, tyD d = some t) ∧ b = false)
def StepQ (d : D) (b : Bool) : Prop := (∃ n : Int, d = .int n ∧ b = decide (1 ≤ n ∧ n ≤ 9)) ∨ (isInt d = false ∧ (∃ t, tyD d = some t) ∧ b = false)
def NameQ (d : D) (b : Bool) : Prop := (∃ t, tyD d = some t) ∧ (∀ x, d = .str x → x.length ≤ 1000) ∧ b = isName d
noncomputable def tsB : List Str → Bool
  | [v, o, t] => decide (v ∈ (["x", "y"] : List Str)) && (decide (o ∈ (["<", ">="] : List Str)) && !isNon (numD t))
  | _ => false
def TsA (d : D) (b : Bool) : Prop := (isSt d = false ∧ (∃ t, tyD d = some t) ∧ b = false) ∨ (∃ ws : List Str, d = .str (spJ ws) ∧ ws ≠ [] ∧ (∀ p, p ∈ ws → 32 ∉ TL.tl p) ∧ (spJ ws).length ≤ 1000 ∧ (∀ v o t, ws = [v, o, t] → WdOk t) ∧ b = tsB ws)
def S_isTestA : DS := fun ds M Φ => ∃ d b, ds = [d] ∧ TsA d b ∧ Φ (.bl b) M
theorem tsB_len {ws : List Str} (h : ws.length ≠ 3) : tsB ws = false := by
  match ws, h with
  | [], _ => rfl
  | [_], _ => rfl
  | [_, _], _ => rfl
  | [_, _, _], h => exact (h rfl).elim
  | _ :: _ :: _ :: _ :: _, _ => rfl
theorem tsB_v {v o t : Str} (h : v ∉ (["x", "y"] : List Str)) : tsB [v, o, t] = false := by
  show (decide (v ∈ (["x", "y"] : List Str)) && _) = false
  rw [decide_eq_false h, Bool.false_and]
theorem tsB_o {v o t : Str} (h : o ∉ (["<", ">="] : List Str)) : tsB [v, o, t] = false := by
  show (decide (v ∈ (["x", "y"] : List Str)) && (decide (o ∈ (["<", ">="] : List Str)) && _)) = false
  rw [decide_eq_false h, Bool.false_and, Bool.and_false]
theorem tsB_n {v o t : Str} (h : ¬ IsNum t) : tsB [v, o, t] = false := by
  show (decide (v ∈ (["x", "y"] : List Str)) && (decide (o ∈ (["<", ">="] : List Str)) && !isNon (numD t))) = false
  rw [numD_none h, show isNon D.non = true from rfl, Bool.not_true, Bool.and_false, Bool.and_false]
theorem tsB_yes {v o t : Str} (h : v ∈ (["x", "y"] : List Str)) (h2 : o ∈ (["<", ">="] : List Str)) (h3 : IsNum t) : tsB [v, o, t] = true := by
  obtain ⟨n, rfl⟩ := h3
  show (decide (v ∈ (["x", "y"] : List Str)) && (decide (o ∈ (["<", ">="] : List Str)) && !isNon (numD (isS n)))) = true
  rw [decide_eq_true h, decide_eq_true h2, numD_isS]
  rfl
def LoopQ (K : PySem.W.Frag) (c : Cs) (R : Addr) (d : D) (b : Bool) : Prop := (AreQ K R d false ∧ b = false) ∨ (AreQ K R d true ∧ (d = .lst [] ∨ d = .tup []) ∧ b = false) ∨ (∃ C fs xs, AreQ K R d true ∧ (d = .lst (.obj C fs :: xs) ∨ d = .tup (.obj C fs :: xs)) ∧ IsF K C ∧ PySem.W.kitOne K (.ref C) (.ref c.go) = some b)
theorem are_seq {K : PySem.W.Frag} {R : Addr} {d : D} (h : AreQ K R d true) : ∃ xs : List D, d = .lst xs ∨ d = .tup xs := by
  rcases h with ⟨_, _, _, h⟩ | ⟨xs, _, h, _⟩ | ⟨_, _, _, _, _, _, h⟩
  · cases h
  · exact ⟨xs, h⟩
  · cases h
def S_goA (c : Cs) (CI : Addr) : DSx := fun ds M Φ Ξ => ∃ (l : Addr) (a b : D) (i j : Bool) (M' : Mem), ds = [.adr l, a, b] ∧ M = (l, .ins c.go []) :: M' ∧ WayQ a i ∧ StepQ b j ∧ (∀ w, firstW [("way", i), ("steps", j)] = some w → Ξ CI [("word", .str w)] M) ∧ (firstW [("way", i), ("steps", j)] = none → ∀ fs, Φ .non ((l, .ins c.go fs) :: M'))
def S_stopA (c : Cs) (CI : Addr) : DSx := fun ds M Φ Ξ => ∃ (l : Addr) (a : D) (i : Bool) (M' : Mem), ds = [.adr l, a] ∧ M = (l, .ins c.stop []) :: M' ∧ NameQ a i ∧ (∀ w, firstW [("room", i)] = some w → Ξ CI [("word", .str w)] M) ∧ (firstW [("room", i)] = none → ∀ fs, Φ .non ((l, .ins c.stop fs) :: M'))
def S_blkA (K : PySem.W.Frag) (R C : Addr) (f : Str) (Q : D → Bool → Prop) (CI : Addr) : DSx := fun ds M Φ Ξ => ∃ (l : Addr) (a b e : D) (i j k : Bool) (M' : Mem), ds = [.adr l, a, b, e] ∧ M = (l, .ins C []) :: M' ∧ Q a i ∧ AreQ K R b j ∧ AreQ K R e k ∧ (∀ w, firstW [(f, i), ("rows", j), ("others", k)] = some w → Ξ CI [("word", .str w)] M) ∧ (firstW [(f, i), ("rows", j), ("others", k)] = none → ∀ fs, Φ .non ((l, .ins C fs) :: M'))
def S_whiA (K : PySem.W.Frag) (R : Addr) (c : Cs) (CI : Addr) : DSx := fun ds M Φ Ξ => ∃ (l : Addr) (a b : D) (i j : Bool) (M' : Mem), ds = [.adr l, a, b] ∧ M = (l, .ins c.whi []) :: M' ∧ TsA a i ∧ LoopQ K c R b j ∧ (∀ w, firstW [("test", i), ("rows", j)] = some w → Ξ CI [("word", .str w)] M) ∧ (firstW [("test", i), ("rows", j)] = none → ∀ fs, Φ .non ((l, .ins c.whi fs) :: M'))
theorem alld {y : Str} : (y.cps.toList.map fun c => decide (c ∈ digS.cps.toList)).all id = true ↔ AllDigits (TL.tl y) := by
  rw [List.all_map, List.all_eq_true]
  exact ⟨fun h c hc => dig_mem.mp (of_decide_eq_true (h c hc)), fun h c hc => decide_eq_true (dig_mem.mpr (h c hc))⟩
theorem alld_no {y : Str} (h : ¬ AllDigits (TL.tl y)) : (y.cps.toList.map fun c => decide (c ∈ digS.cps.toList)).all id = false := Bool.eq_false_iff.mpr fun e => h (alld.mp e)
theorem at_head {y : Str} {r : List Nat} (h : TL.tl y = 48 :: r) : atI y.cps.toList 0 = some 48 := by
  rw [show y.cps.toList = 48 :: r from h]
  unfold atI ixN
  rw [if_pos (by decide), if_pos (by rw [List.length_cons]; omega)]
  rfl
def S_numNo : DS := fun ds M Φ => ∃ t : Str, ds = [.str t] ∧ t.length ≤ 60 ∧ ¬ IsNum t ∧ Φ .non M
theorem c48t : decide ((⟨#[48]⟩ : Str) = "0") = true := by decide +kernel
theorem ok_number_inN {f : Addr} {fd : FuncData} (F : FunD K "number_in" "number_in" (defArgs s_number_in) (defBody s_number_in) (defScope s_number_in) [] [] f fd) (B : Bf mg) (hDg : ∃ t, mg "DIGITS" = some (.str digS t)) : FnOk P w K mg base CX0 1 f fd ["text"] (spOf K S_numNo) := by
  refine fn_data (k := 0) F sc_number_in (fun ds M Φ h => ?_) (fun cdv A outer s H E ds M Φ hr h => ?_)
  · obtain ⟨t, rfl, hl0, hn, q⟩ := h
    all_goals rfl
  · obtain ⟨t, rfl, hl0, hn, q⟩ := h
    have h5 : sizeLine = 2 ^ 24 := rfl
    have hzlen : t.length ≤ sizeLine := by omega
    rcases digT_cases t with ⟨hc, he, _⟩ | ⟨hc, he⟩
    · skip
      have hc9 : decide (cutS t none (some 1) = "-") = true := decide_eq_true hc
      have hylen : (cutS t (some 1) none).cps.size < sizeLine := Nat.lt_of_le_of_lt (cutS_length _ _ _) (by omega)
      by_cases h1 : cutS t (some 1) none = ""
      · skip
        refine ws_set 1 sc_number_in.nd ?_
        refine we_if ?_
        refine wt_cmp ?_ (nomark _)
        refine we_slS ?_
        refine wv 0 rfl ?_
        refine wo_none ?_
        refine wo_some ?_
        refine we_int ?_
        refine ⟨_, rfl, ?_⟩
        refine ⟨_, rfl, hzlen, ?_⟩
        refine we_str ?_
        refine od_eqS ?_
        rw [hc9]
        refine ⟨_, rfl, ?_⟩
        refine ⟨fun hb => ?_, fun hb => ?_⟩
        · walk_at "tidy"
          refine we_slS ?_
          refine wv 0 rfl ?_
          refine wo_some ?_
          refine we_int ?_
          refine ⟨_, rfl, ?_⟩
          refine wo_none ?_
          refine ⟨_, rfl, hzlen, ?_⟩
          refine ws_if ?_
          refine wt_bool ?_
          refine ww_or ?_
          refine wt_cmp ?_ (nomark _)
          refine wv 1 rfl ?_
          refine we_str ?_
          refine od_eqS ?_
          rw [decide_eq_true h1]
          refine ⟨_, rfl, ?_⟩
          refine ⟨fun hb => ?_, fun hb => ?_⟩
          · walk_at "tidy"
            refine ⟨fun hb => ?_, fun hb => ?_⟩
            · walk_at "tidy"
              refine ws_ret ?_
              refine we_non ?_
              exact q
            · walk_at "dead"
          · walk_at "dead"
        · walk_at "dead"
      · by_cases h2 : AllDigits (TL.tl (cutS t (some 1) none))
        · obtain ⟨r9, h3, h4⟩ := num_fail hn (by rw [he]; exact h1) (by rw [he]; exact h2)
          rw [he] at h3
          refine ws_set 1 sc_number_in.nd ?_
          refine we_if ?_
          refine wt_cmp ?_ (nomark _)
          refine we_slS ?_
          refine wv 0 rfl ?_
          refine wo_none ?_
          refine wo_some ?_
          refine we_int ?_
          refine ⟨_, rfl, ?_⟩
          refine ⟨_, rfl, hzlen, ?_⟩
          refine we_str ?_
          refine od_eqS ?_
          rw [hc9]
          refine ⟨_, rfl, ?_⟩
          refine ⟨fun hb => ?_, fun hb => ?_⟩
          · walk_at "tidy"
            refine we_slS ?_
            refine wv 0 rfl ?_
            refine wo_some ?_
            refine we_int ?_
            refine ⟨_, rfl, ?_⟩
            refine wo_none ?_
            refine ⟨_, rfl, hzlen, ?_⟩
            refine ws_if ?_
            refine wt_bool ?_
            refine ww_or ?_
            refine wt_cmp ?_ (nomark _)
            refine wv 1 rfl ?_
            refine we_str ?_
            refine od_eqS ?_
            rw [decide_eq_false h1]
            refine ⟨_, rfl, ?_⟩
            refine ⟨fun hb => ?_, fun hb => ?_⟩
            · walk_at "dead"
            · walk_at "tidy"
              refine ww_or1 ?_
              refine wt_not ?_
              refine wt_val ?_ (by intro _; rfl)
              refine wcB B.all bt_all ?_
              refine wa_cons ?_
              refine lcMapS (own := [("sign", 2)]) (j := 2) sc_number_in.nd ?_ (blkOk_by (N := ["text", "digits", "sign"]) (sc := defScope s_number_in) (by decide +kernel)) (fun _ _ _ _ _ => pg_name (i := 2) sc_number_in.nd rfl (Or.inl rfl))
              refine wv 1 rfl ?_
              refine ⟨_, fun c => .bl (decide (c ∈ digS.cps.toList)), rfl, hylen, fun c hc l out s H C cl fp => ?_, ?_⟩
              · refine we_cmp ?_ (by rfl)
                refine wv 2 rfl ?_
                refine we_gstr hDg ?_
                refine od_inSign ?_
                exact ⟨rfl, rfl⟩
              rw [show ((cutS t (some 1) none).cps.toList.map fun c => D.bl (decide (c ∈ digS.cps.toList))) = ((cutS t (some 1) none).cps.toList.map fun c => decide (c ∈ digS.cps.toList)).map D.bl by rw [List.map_map]; rfl]
              refine wa_nil ?_
              refine cd_all rfl ?_
              rw [alld.mpr h2]
              walk_at "truth"
              refine ⟨fun hb => ?_, fun hb => ?_⟩
              · walk_at "dead"
              · walk_at "tidy"
                refine ws_nil ?_
                refine ws_if ?_
                refine wt_bool ?_
                refine ww_and ?_
                refine wt_cmp ?_ (nomark _)
                refine we_ix ?_ (fun _ _ => rfl)
                refine wv 1 rfl ?_
                refine we_int ?_
                refine ix_strI (Nat.le_of_lt hylen) (at_head h3) ?_
                refine we_str ?_
                refine od_eqS ?_
                rw [c48t]
                refine ⟨_, rfl, ?_⟩
                refine ⟨fun hb => ?_, fun hb => ?_⟩
                · walk_at "tidy"
                  refine ww_and1 ?_
                  refine wt_cmp ?_ (nomark _)
                  refine wv 0 rfl ?_
                  refine we_str ?_
                  refine od_neS ?_
                  rw [decide_eq_false h4]
                  refine ⟨_, rfl, ?_⟩
                  refine ⟨fun hb => ?_, fun hb => ?_⟩
                  · walk_at "tidy"
                    refine ws_ret ?_
                    refine we_non ?_
                    exact q
                  · walk_at "dead"
                · walk_at "dead"
          · walk_at "dead"
        · skip
          refine ws_set 1 sc_number_in.nd ?_
          refine we_if ?_
          refine wt_cmp ?_ (nomark _)
          refine we_slS ?_
          refine wv 0 rfl ?_
          refine wo_none ?_
          refine wo_some ?_
          refine we_int ?_
          refine ⟨_, rfl, ?_⟩
          refine ⟨_, rfl, hzlen, ?_⟩
          refine we_str ?_
          refine od_eqS ?_
          rw [hc9]
          refine ⟨_, rfl, ?_⟩
          refine ⟨fun hb => ?_, fun hb => ?_⟩
          · walk_at "tidy"
            refine we_slS ?_
            refine wv 0 rfl ?_
            refine wo_some ?_
            refine we_int ?_
            refine ⟨_, rfl, ?_⟩
            refine wo_none ?_
            refine ⟨_, rfl, hzlen, ?_⟩
            refine ws_if ?_
            refine wt_bool ?_
            refine ww_or ?_
            refine wt_cmp ?_ (nomark _)
            refine wv 1 rfl ?_
            refine we_str ?_
            refine od_eqS ?_
            rw [decide_eq_false h1]
            refine ⟨_, rfl, ?_⟩
            refine ⟨fun hb => ?_, fun hb => ?_⟩
            · walk_at "dead"
            · walk_at "tidy"
              refine ww_or1 ?_
              refine wt_not ?_
              refine wt_val ?_ (by intro _; rfl)
              refine wcB B.all bt_all ?_
              refine wa_cons ?_
              refine lcMapS (own := [("sign", 2)]) (j := 2) sc_number_in.nd ?_ (blkOk_by (N := ["text", "digits", "sign"]) (sc := defScope s_number_in) (by decide +kernel)) (fun _ _ _ _ _ => pg_name (i := 2) sc_number_in.nd rfl (Or.inl rfl))
              refine wv 1 rfl ?_
              refine ⟨_, fun c => .bl (decide (c ∈ digS.cps.toList)), rfl, hylen, fun c hc l out s H C cl fp => ?_, ?_⟩
              · refine we_cmp ?_ (by rfl)
                refine wv 2 rfl ?_
                refine we_gstr hDg ?_
                refine od_inSign ?_
                exact ⟨rfl, rfl⟩
              rw [show ((cutS t (some 1) none).cps.toList.map fun c => D.bl (decide (c ∈ digS.cps.toList))) = ((cutS t (some 1) none).cps.toList.map fun c => decide (c ∈ digS.cps.toList)).map D.bl by rw [List.map_map]; rfl]
              refine wa_nil ?_
              refine cd_all rfl ?_
              rw [alld_no h2]
              walk_at "truth"
              refine ⟨fun hb => ?_, fun hb => ?_⟩
              · walk_at "tidy"
                refine ws_ret ?_
                refine we_non ?_
                exact q
              · walk_at "dead"
          · walk_at "dead"
    · skip
      have hc9 : decide (cutS t none (some 1) = "-") = false := decide_eq_false hc
      have hylen : (t).cps.size < sizeLine := Nat.lt_of_le_of_lt (show t.cps.size ≤ 60 from hl0) (by omega)
      by_cases h1 : t = ""
      · skip
        refine ws_set 1 sc_number_in.nd ?_
        refine we_if ?_
        refine wt_cmp ?_ (nomark _)
        refine we_slS ?_
        refine wv 0 rfl ?_
        refine wo_none ?_
        refine wo_some ?_
        refine we_int ?_
        refine ⟨_, rfl, ?_⟩
        refine ⟨_, rfl, hzlen, ?_⟩
        refine we_str ?_
        refine od_eqS ?_
        rw [hc9]
        refine ⟨_, rfl, ?_⟩
        refine ⟨fun hb => ?_, fun hb => ?_⟩
        · walk_at "dead"
        · walk_at "tidy"
          refine wv 0 rfl ?_
          refine ws_if ?_
          refine wt_bool ?_
          refine ww_or ?_
          refine wt_cmp ?_ (nomark _)
          refine wv 1 rfl ?_
          refine we_str ?_
          refine od_eqS ?_
          rw [decide_eq_true h1]
          refine ⟨_, rfl, ?_⟩
          refine ⟨fun hb => ?_, fun hb => ?_⟩
          · walk_at "tidy"
            refine ⟨fun hb => ?_, fun hb => ?_⟩
            · walk_at "tidy"
              refine ws_ret ?_
              refine we_non ?_
              exact q
            · walk_at "dead"
          · walk_at "dead"
      · by_cases h2 : AllDigits (TL.tl (t))
        · obtain ⟨r9, h3, h4⟩ := num_fail hn (by rw [he]; exact h1) (by rw [he]; exact h2)
          rw [he] at h3
          refine ws_set 1 sc_number_in.nd ?_
          refine we_if ?_
          refine wt_cmp ?_ (nomark _)
          refine we_slS ?_
          refine wv 0 rfl ?_
          refine wo_none ?_
          refine wo_some ?_
          refine we_int ?_
          refine ⟨_, rfl, ?_⟩
          refine ⟨_, rfl, hzlen, ?_⟩
          refine we_str ?_
          refine od_eqS ?_
          rw [hc9]
          refine ⟨_, rfl, ?_⟩
          refine ⟨fun hb => ?_, fun hb => ?_⟩
          · walk_at "dead"
          · walk_at "tidy"
            refine wv 0 rfl ?_
            refine ws_if ?_
            refine wt_bool ?_
            refine ww_or ?_
            refine wt_cmp ?_ (nomark _)
            refine wv 1 rfl ?_
            refine we_str ?_
            refine od_eqS ?_
            rw [decide_eq_false h1]
            refine ⟨_, rfl, ?_⟩
            refine ⟨fun hb => ?_, fun hb => ?_⟩
            · walk_at "dead"
            · walk_at "tidy"
              refine ww_or1 ?_
              refine wt_not ?_
              refine wt_val ?_ (by intro _; rfl)
              refine wcB B.all bt_all ?_
              refine wa_cons ?_
              refine lcMapS (own := [("sign", 2)]) (j := 2) sc_number_in.nd ?_ (blkOk_by (N := ["text", "digits", "sign"]) (sc := defScope s_number_in) (by decide +kernel)) (fun _ _ _ _ _ => pg_name (i := 2) sc_number_in.nd rfl (Or.inl rfl))
              refine wv 1 rfl ?_
              refine ⟨_, fun c => .bl (decide (c ∈ digS.cps.toList)), rfl, hylen, fun c hc l out s H C cl fp => ?_, ?_⟩
              · refine we_cmp ?_ (by rfl)
                refine wv 2 rfl ?_
                refine we_gstr hDg ?_
                refine od_inSign ?_
                exact ⟨rfl, rfl⟩
              rw [show ((t).cps.toList.map fun c => D.bl (decide (c ∈ digS.cps.toList))) = ((t).cps.toList.map fun c => decide (c ∈ digS.cps.toList)).map D.bl by rw [List.map_map]; rfl]
              refine wa_nil ?_
              refine cd_all rfl ?_
              rw [alld.mpr h2]
              walk_at "truth"
              refine ⟨fun hb => ?_, fun hb => ?_⟩
              · walk_at "dead"
              · walk_at "tidy"
                refine ws_nil ?_
                refine ws_if ?_
                refine wt_bool ?_
                refine ww_and ?_
                refine wt_cmp ?_ (nomark _)
                refine we_ix ?_ (fun _ _ => rfl)
                refine wv 1 rfl ?_
                refine we_int ?_
                refine ix_strI (Nat.le_of_lt hylen) (at_head h3) ?_
                refine we_str ?_
                refine od_eqS ?_
                rw [c48t]
                refine ⟨_, rfl, ?_⟩
                refine ⟨fun hb => ?_, fun hb => ?_⟩
                · walk_at "tidy"
                  refine ww_and1 ?_
                  refine wt_cmp ?_ (nomark _)
                  refine wv 0 rfl ?_
                  refine we_str ?_
                  refine od_neS ?_
                  rw [decide_eq_false h4]
                  refine ⟨_, rfl, ?_⟩
                  refine ⟨fun hb => ?_, fun hb => ?_⟩
                  · walk_at "tidy"
                    refine ws_ret ?_
                    refine we_non ?_
                    exact q
                  · walk_at "dead"
                · walk_at "dead"
        · skip
          refine ws_set 1 sc_number_in.nd ?_
          refine we_if ?_
          refine wt_cmp ?_ (nomark _)
          refine we_slS ?_
          refine wv 0 rfl ?_
          refine wo_none ?_
          refine wo_some ?_
          refine we_int ?_
          refine ⟨_, rfl, ?_⟩
          refine ⟨_, rfl, hzlen, ?_⟩
          refine we_str ?_
          refine od_eqS ?_
          rw [hc9]
          refine ⟨_, rfl, ?_⟩
          refine ⟨fun hb => ?_, fun hb => ?_⟩
          · walk_at "dead"
          · walk_at "tidy"
            refine wv 0 rfl ?_
            refine ws_if ?_
            refine wt_bool ?_
            refine ww_or ?_
            refine wt_cmp ?_ (nomark _)
            refine wv 1 rfl ?_
            refine we_str ?_
            refine od_eqS ?_
            rw [decide_eq_false h1]
            refine ⟨_, rfl, ?_⟩
            refine ⟨fun hb => ?_, fun hb => ?_⟩
            · walk_at "dead"
            · walk_at "tidy"
              refine ww_or1 ?_
              refine wt_not ?_
              refine wt_val ?_ (by intro _; rfl)
              refine wcB B.all bt_all ?_
              refine wa_cons ?_
              refine lcMapS (own := [("sign", 2)]) (j := 2) sc_number_in.nd ?_ (blkOk_by (N := ["text", "digits", "sign"]) (sc := defScope s_number_in) (by decide +kernel)) (fun _ _ _ _ _ => pg_name (i := 2) sc_number_in.nd rfl (Or.inl rfl))
              refine wv 1 rfl ?_
              refine ⟨_, fun c => .bl (decide (c ∈ digS.cps.toList)), rfl, hylen, fun c hc l out s H C cl fp => ?_, ?_⟩
              · refine we_cmp ?_ (by rfl)
                refine wv 2 rfl ?_
                refine we_gstr hDg ?_
                refine od_inSign ?_
                exact ⟨rfl, rfl⟩
              rw [show ((t).cps.toList.map fun c => D.bl (decide (c ∈ digS.cps.toList))) = ((t).cps.toList.map fun c => decide (c ∈ digS.cps.toList)).map D.bl by rw [List.map_map]; rfl]
              refine wa_nil ?_
              refine cd_all rfl ?_
              rw [alld_no h2]
              walk_at "truth"
              refine ⟨fun hb => ?_, fun hb => ?_⟩
              · walk_at "tidy"
                refine ws_ret ?_
                refine we_non ?_
                exact q
              · walk_at "dead"
theorem numW {t : Str} {M : Mem} {Φ : VP} (h : WdOk t) (q : Φ (numD t) M) : orS S_numIn S_numNo [.str t] M Φ := by
  by_cases hn : IsNum t
  · obtain ⟨n, rfl⟩ := hn
    have := h.num rfl
    rw [numD_isS] at q
    exact .inl ⟨n, rfl, sm_of (by omega) (by omega), q⟩
  · rw [numD_none hn] at q
    exact .inr ⟨t, rfl, by have := h.ln; omega, hn, q⟩
theorem ok_is_testA {f : Addr} {fd : FuncData} (F : FunD K "is_test" "is_test" (defArgs s_is_test) (defBody s_is_test) (defScope s_is_test) [] [] f fd) (B : Bf mg) (hN : HasFn P w K mg base 1 "number_in" (orS S_numIn S_numNo)) : FnOk P w K mg base CX0 2 f fd ["value"] (spOf K S_isTestA) := by
  refine fn_data (k := 1) F sc_is_test (fun ds M Φ h => ?_) (fun cdv A outer s H E ds M Φ hr h => ?_)
  · obtain ⟨d, b, rfl, hd, q⟩ := h
    all_goals rfl
  · obtain ⟨d, b, rfl, hd, q⟩ := h
    rcases hd with ⟨h0, ⟨t, ht⟩, rfl⟩ | ⟨ws, rfl, hne, hsp, hlen, hwd, rfl⟩
    · skip
      refine ws_if ?_
      refine wt_not ?_
      refine wt_val ?_ (by intro _; rfl)
      refine wcB B.isi boot_isinstance ?_
      refine wa_cons ?_
      refine wv 0 rfl ?_
      refine wa_cons ?_
      refine wbt B.str boot_str ?_
      refine wa_nil ?_
      refine cd_isSt ht ?_
      rw [h0]
      walk_at "truth"
      refine ⟨fun hb => ?_, fun hb => ?_⟩
      · walk_at "tidy"
        refine ws_ret ?_
        refine we_bl ?_
        exact q
      · walk_at "dead"
    · by_cases hl3 : ws.length = 3
      · obtain ⟨v9, o9, t9, rfl⟩ : ∃ v9 o9 t9, ws = [v9, o9, t9] := by
          match ws, hl3 with
          | [v9, o9, t9], _ => exact ⟨v9, o9, t9, rfl⟩
        by_cases h1 : v9 ∈ (["x", "y"] : List Str)
        · by_cases h2 : o9 ∈ (["<", ">="] : List Str)
          · rcases Classical.em (IsNum t9) with h3 | h3
            · rw [tsB_yes h1 h2 h3] at q
              obtain ⟨n9, rfl⟩ := h3
              refine ws_if ?_
              refine wt_not ?_
              refine wt_val ?_ (by intro _; rfl)
              refine wcB B.isi boot_isinstance ?_
              refine wa_cons ?_
              refine wv 0 rfl ?_
              refine wa_cons ?_
              refine wbt B.str boot_str ?_
              refine wa_nil ?_
              refine cd_isSt (t := "str") rfl ?_
              walk_at "truth"
              refine ⟨fun hb => ?_, fun hb => ?_⟩
              · walk_at "dead"
              · walk_at "tidy"
                refine ws_nil ?_
                refine ws_set 1 sc_is_test.nd ?_
                refine we_split ?_
                refine wv 0 rfl ?_
                refine ⟨_, rfl, (by have h5 : sizeLine = 2 ^ 24 := rfl; omega), ?_⟩
                refine we_str ?_
                refine ⟨_, rfl, blank1, ?_⟩
                rw [(spJ_split hne hsp)]
                refine ws_ret ?_
                refine we_and ?_
                refine we_cmp ?_ (nomark _)
                refine wcB B.len boot_len ?_
                refine wa_cons ?_
                refine wv 1 rfl ?_
                refine wa_nil ?_
                refine cd_len_lst ?_
                refine we_int ?_
                refine od_eq ?_
                rw [show decide ((((([v9, o9, isS n9] : List Str).map D.str).length : Nat) : Int) = 3) = true from rfl]
                refine ⟨_, rfl, fun hb => ?_, fun hb => ?_⟩
                · walk_at "tidy"
                  refine we_and ?_
                  refine we_cmp ?_ (by rfl)
                  refine we_ix ?_ (fun _ _ => rfl)
                  refine wv 1 rfl ?_
                  refine we_int ?_
                  refine ix_lst (j := 0) rfl rfl ?_
                  refine we_tup ?_
                  refine wa_cons ?_
                  refine we_str ?_
                  refine wa_cons ?_
                  refine we_str ?_
                  refine wa_nil ?_
                  refine ⟨(by walk_at "size"), ?_⟩
                  refine od_inTS (zs := ["x", "y"]) ?_
                  rw [decide_eq_true h1]
                  refine ⟨_, rfl, fun hb => ?_, fun hb => ?_⟩
                  · walk_at "tidy"
                    refine we_and ?_
                    refine we_cmp ?_ (by rfl)
                    refine we_ix ?_ (fun _ _ => rfl)
                    refine wv 1 rfl ?_
                    refine we_int ?_
                    refine ix_lst (j := 1) rfl rfl ?_
                    refine we_tup ?_
                    refine wa_cons ?_
                    refine we_str ?_
                    refine wa_cons ?_
                    refine we_str ?_
                    refine wa_nil ?_
                    refine ⟨(by walk_at "size"), ?_⟩
                    refine od_inTS (zs := ["<", ">="]) ?_
                    rw [decide_eq_true h2]
                    refine ⟨_, rfl, fun hb => ?_, fun hb => ?_⟩
                    · walk_at "tidy"
                      refine we_one ?_
                      refine we_cmp ?_ (nomark _)
                      refine wcf hN (hr.mono (by decide)) ?_
                      refine wa_cons ?_
                      refine we_ix ?_ (fun _ _ => rfl)
                      refine wv 1 rfl ?_
                      refine we_int ?_
                      refine ix_lst (j := 2) rfl rfl ?_
                      refine wa_nil ?_
                      refine numW (hwd _ _ _ rfl) ?_
                      refine we_non ?_
                      refine od_isn ?_
                      rw [numD_isS]
                      exact q
                    · walk_at "dead"
                  · walk_at "dead"
                · walk_at "dead"
            · rw [tsB_n h3] at q
              refine ws_if ?_
              refine wt_not ?_
              refine wt_val ?_ (by intro _; rfl)
              refine wcB B.isi boot_isinstance ?_
              refine wa_cons ?_
              refine wv 0 rfl ?_
              refine wa_cons ?_
              refine wbt B.str boot_str ?_
              refine wa_nil ?_
              refine cd_isSt (t := "str") rfl ?_
              walk_at "truth"
              refine ⟨fun hb => ?_, fun hb => ?_⟩
              · walk_at "dead"
              · walk_at "tidy"
                refine ws_nil ?_
                refine ws_set 1 sc_is_test.nd ?_
                refine we_split ?_
                refine wv 0 rfl ?_
                refine ⟨_, rfl, (by have h5 : sizeLine = 2 ^ 24 := rfl; omega), ?_⟩
                refine we_str ?_
                refine ⟨_, rfl, blank1, ?_⟩
                rw [(spJ_split hne hsp)]
                refine ws_ret ?_
                refine we_and ?_
                refine we_cmp ?_ (nomark _)
                refine wcB B.len boot_len ?_
                refine wa_cons ?_
                refine wv 1 rfl ?_
                refine wa_nil ?_
                refine cd_len_lst ?_
                refine we_int ?_
                refine od_eq ?_
                rw [show decide ((((([v9, o9, t9] : List Str).map D.str).length : Nat) : Int) = 3) = true from rfl]
                refine ⟨_, rfl, fun hb => ?_, fun hb => ?_⟩
                · walk_at "tidy"
                  refine we_and ?_
                  refine we_cmp ?_ (by rfl)
                  refine we_ix ?_ (fun _ _ => rfl)
                  refine wv 1 rfl ?_
                  refine we_int ?_
                  refine ix_lst (j := 0) rfl rfl ?_
                  refine we_tup ?_
                  refine wa_cons ?_
                  refine we_str ?_
                  refine wa_cons ?_
                  refine we_str ?_
                  refine wa_nil ?_
                  refine ⟨(by walk_at "size"), ?_⟩
                  refine od_inTS (zs := ["x", "y"]) ?_
                  rw [decide_eq_true h1]
                  refine ⟨_, rfl, fun hb => ?_, fun hb => ?_⟩
                  · walk_at "tidy"
                    refine we_and ?_
                    refine we_cmp ?_ (by rfl)
                    refine we_ix ?_ (fun _ _ => rfl)
                    refine wv 1 rfl ?_
                    refine we_int ?_
                    refine ix_lst (j := 1) rfl rfl ?_
                    refine we_tup ?_
                    refine wa_cons ?_
                    refine we_str ?_
                    refine wa_cons ?_
                    refine we_str ?_
                    refine wa_nil ?_
                    refine ⟨(by walk_at "size"), ?_⟩
                    refine od_inTS (zs := ["<", ">="]) ?_
                    rw [decide_eq_true h2]
                    refine ⟨_, rfl, fun hb => ?_, fun hb => ?_⟩
                    · walk_at "tidy"
                      refine we_one ?_
                      refine we_cmp ?_ (nomark _)
                      refine wcf hN (hr.mono (by decide)) ?_
                      refine wa_cons ?_
                      refine we_ix ?_ (fun _ _ => rfl)
                      refine wv 1 rfl ?_
                      refine we_int ?_
                      refine ix_lst (j := 2) rfl rfl ?_
                      refine wa_nil ?_
                      refine numW (hwd _ _ _ rfl) ?_
                      refine we_non ?_
                      refine od_isn ?_
                      rw [numD_none h3]
                      exact q
                    · walk_at "dead"
                  · walk_at "dead"
                · walk_at "dead"
          · rw [tsB_o h2] at q
            refine ws_if ?_
            refine wt_not ?_
            refine wt_val ?_ (by intro _; rfl)
            refine wcB B.isi boot_isinstance ?_
            refine wa_cons ?_
            refine wv 0 rfl ?_
            refine wa_cons ?_
            refine wbt B.str boot_str ?_
            refine wa_nil ?_
            refine cd_isSt (t := "str") rfl ?_
            walk_at "truth"
            refine ⟨fun hb => ?_, fun hb => ?_⟩
            · walk_at "dead"
            · walk_at "tidy"
              refine ws_nil ?_
              refine ws_set 1 sc_is_test.nd ?_
              refine we_split ?_
              refine wv 0 rfl ?_
              refine ⟨_, rfl, (by have h5 : sizeLine = 2 ^ 24 := rfl; omega), ?_⟩
              refine we_str ?_
              refine ⟨_, rfl, blank1, ?_⟩
              rw [(spJ_split hne hsp)]
              refine ws_ret ?_
              refine we_and ?_
              refine we_cmp ?_ (nomark _)
              refine wcB B.len boot_len ?_
              refine wa_cons ?_
              refine wv 1 rfl ?_
              refine wa_nil ?_
              refine cd_len_lst ?_
              refine we_int ?_
              refine od_eq ?_
              rw [show decide ((((([v9, o9, t9] : List Str).map D.str).length : Nat) : Int) = 3) = true from rfl]
              refine ⟨_, rfl, fun hb => ?_, fun hb => ?_⟩
              · walk_at "tidy"
                refine we_and ?_
                refine we_cmp ?_ (by rfl)
                refine we_ix ?_ (fun _ _ => rfl)
                refine wv 1 rfl ?_
                refine we_int ?_
                refine ix_lst (j := 0) rfl rfl ?_
                refine we_tup ?_
                refine wa_cons ?_
                refine we_str ?_
                refine wa_cons ?_
                refine we_str ?_
                refine wa_nil ?_
                refine ⟨(by walk_at "size"), ?_⟩
                refine od_inTS (zs := ["x", "y"]) ?_
                rw [decide_eq_true h1]
                refine ⟨_, rfl, fun hb => ?_, fun hb => ?_⟩
                · walk_at "tidy"
                  refine we_and ?_
                  refine we_cmp ?_ (by rfl)
                  refine we_ix ?_ (fun _ _ => rfl)
                  refine wv 1 rfl ?_
                  refine we_int ?_
                  refine ix_lst (j := 1) rfl rfl ?_
                  refine we_tup ?_
                  refine wa_cons ?_
                  refine we_str ?_
                  refine wa_cons ?_
                  refine we_str ?_
                  refine wa_nil ?_
                  refine ⟨(by walk_at "size"), ?_⟩
                  refine od_inTS (zs := ["<", ">="]) ?_
                  rw [decide_eq_false h2]
                  refine ⟨_, rfl, fun hb => ?_, fun hb => ?_⟩
                  · walk_at "dead"
                  · walk_at "tidy"
                    exact q
                · walk_at "dead"
              · walk_at "dead"
        · rw [tsB_v h1] at q
          refine ws_if ?_
          refine wt_not ?_
          refine wt_val ?_ (by intro _; rfl)
          refine wcB B.isi boot_isinstance ?_
          refine wa_cons ?_
          refine wv 0 rfl ?_
          refine wa_cons ?_
          refine wbt B.str boot_str ?_
          refine wa_nil ?_
          refine cd_isSt (t := "str") rfl ?_
          walk_at "truth"
          refine ⟨fun hb => ?_, fun hb => ?_⟩
          · walk_at "dead"
          · walk_at "tidy"
            refine ws_nil ?_
            refine ws_set 1 sc_is_test.nd ?_
            refine we_split ?_
            refine wv 0 rfl ?_
            refine ⟨_, rfl, (by have h5 : sizeLine = 2 ^ 24 := rfl; omega), ?_⟩
            refine we_str ?_
            refine ⟨_, rfl, blank1, ?_⟩
            rw [(spJ_split hne hsp)]
            refine ws_ret ?_
            refine we_and ?_
            refine we_cmp ?_ (nomark _)
            refine wcB B.len boot_len ?_
            refine wa_cons ?_
            refine wv 1 rfl ?_
            refine wa_nil ?_
            refine cd_len_lst ?_
            refine we_int ?_
            refine od_eq ?_
            rw [show decide ((((([v9, o9, t9] : List Str).map D.str).length : Nat) : Int) = 3) = true from rfl]
            refine ⟨_, rfl, fun hb => ?_, fun hb => ?_⟩
            · walk_at "tidy"
              refine we_and ?_
              refine we_cmp ?_ (by rfl)
              refine we_ix ?_ (fun _ _ => rfl)
              refine wv 1 rfl ?_
              refine we_int ?_
              refine ix_lst (j := 0) rfl rfl ?_
              refine we_tup ?_
              refine wa_cons ?_
              refine we_str ?_
              refine wa_cons ?_
              refine we_str ?_
              refine wa_nil ?_
              refine ⟨(by walk_at "size"), ?_⟩
              refine od_inTS (zs := ["x", "y"]) ?_
              rw [decide_eq_false h1]
              refine ⟨_, rfl, fun hb => ?_, fun hb => ?_⟩
              · walk_at "dead"
              · walk_at "tidy"
                exact q
            · walk_at "dead"
      · rw [tsB_len hl3] at q
        refine ws_if ?_
        refine wt_not ?_
        refine wt_val ?_ (by intro _; rfl)
        refine wcB B.isi boot_isinstance ?_
        refine wa_cons ?_
        refine wv 0 rfl ?_
        refine wa_cons ?_
        refine wbt B.str boot_str ?_
        refine wa_nil ?_
        refine cd_isSt (t := "str") rfl ?_
        walk_at "truth"
        refine ⟨fun hb => ?_, fun hb => ?_⟩
        · walk_at "dead"
        · walk_at "tidy"
          refine ws_nil ?_
          refine ws_set 1 sc_is_test.nd ?_
          refine we_split ?_
          refine wv 0 rfl ?_
          refine ⟨_, rfl, (by have h5 : sizeLine = 2 ^ 24 := rfl; omega), ?_⟩
          refine we_str ?_
          refine ⟨_, rfl, blank1, ?_⟩
          rw [(spJ_split hne hsp)]
          refine ws_ret ?_
          refine we_and ?_
          refine we_cmp ?_ (nomark _)
          refine wcB B.len boot_len ?_
          refine wa_cons ?_
          refine wv 1 rfl ?_
          refine wa_nil ?_
          refine cd_len_lst ?_
          refine we_int ?_
          refine od_eq ?_
          rw [decide_eq_false (by rw [List.length_map]; omega)]
          refine ⟨_, rfl, fun hb => ?_, fun hb => ?_⟩
          · walk_at "dead"
          · walk_at "tidy"
            exact q
theorem ok_is_sequenceO {f : Addr} {fd : FuncData} (F : FunD K "is_sequence" "is_sequence" (defArgs s_is_sequence) (defBody s_is_sequence) (defScope s_is_sequence) [] [] f fd) (B : Bf mg) : FnOk P w K mg base CX0 1 f fd ["value"] (spOf K (S_is_seqO K)) := by
  refine fn_data (k := 0) F sc_is_sequence (fun ds M Φ h => ?_) (fun cdv A outer s H E ds M Φ hr h => ?_)
  · obtain ⟨C, fs, rfl, hI, hk1, hk2, q⟩ := h
    all_goals rfl
  · obtain ⟨C, fs, rfl, hI, hk1, hk2, q⟩ := h
    refine ws_ret ?_
    refine wcB B.isi boot_isinstance ?_
    refine wa_cons ?_
    refine wv 0 rfl ?_
    refine wa_cons ?_
    refine we_tup ?_
    refine wa_cons ?_
    refine wbt B.list boot_list ?_
    refine wa_cons ?_
    refine wbt B.tuple boot_tuple ?_
    refine wa_nil ?_
    refine ⟨(by walk_at "size"), ?_⟩
    refine wa_nil ?_
    refine cd_isiOT (.inl rfl) hI hk1 hk2 ?_
    exact q
theorem ok_are_rowsQL {f : Addr} {fd : FuncData} (F : FunD K "are_rows" "are_rows" (defArgs s_are_rows) (defBody s_are_rows) (defScope s_are_rows) [] [] f fd) (B : Bf mg) {CR : Addr} (hmR : mg "Row" = some (.ref CR)) (hSeq : HasFn P w K mg base 1 "is_sequence" S_is_seq) : FnOk P w K mg base CX0 2 f fd ["value"] (spOf K (S_areS K CR .lst)) := by
  refine fn_data (k := 1) F sc_are_rows (fun ds M Φ h => ?_) (fun cdv A outer s H E ds M Φ hr h => ?_)
  · obtain ⟨xs, r, rfl, hl, hq9, q⟩ := h
    all_goals rfl
  · obtain ⟨xs, r, rfl, hl, hq9, q⟩ := h
    refine ws_ret ?_
    refine we_and ?_
    refine wcf hSeq (hr.mono (by decide)) ?_
    refine wa_cons ?_
    refine wv 0 rfl ?_
    refine wa_nil ?_
    refine ⟨_, _, rfl, rfl, ?_⟩
    rw [show (("list" : String) == "list" || ("list" : String) == "tuple") = true by decide]
    refine ⟨_, rfl, fun hb => ?_, fun hb => ?_⟩
    · walk_at "tidy"
      refine we_one ?_
      refine wcB B.all bt_all ?_
      refine wa_cons ?_
      refine lcMapL (own := [("row", 1)]) (j := 1) sc_are_rows.nd ?_ (blkOk_by (N := ["value", "row"]) (sc := defScope s_are_rows) (by decide +kernel)) (fun _ _ _ _ _ => pg_name (i := 1) sc_are_rows.nd rfl (Or.inl rfl))
      refine wv 0 rfl ?_
      refine ⟨xs, fun y => .bl (r y), rfl, hl, fun i yy hy l out s H C cl fp => ?_, ?_⟩
      · rcases hq9 yy (List.mem_of_getElem? hy) with ⟨t9, ht9, hk9⟩ | ⟨C9, fs9, rfl, hI9, hk9⟩
        · exact wcB B.isi boot_isinstance (wa_cons (wv 1 rfl (wa_cons (wgl hmR (wa_nil (cd_isiTC ht9 hk9 ⟨rfl, rfl⟩))))))
        · exact wcB B.isi boot_isinstance (wa_cons (wv 1 rfl (wa_cons (wgl hmR (wa_nil (cd_isiC (.inl rfl) hI9 hk9 ⟨rfl, rfl⟩))))))
      rw [show (xs.map fun y => D.bl (r y)) = (xs.map r).map D.bl by rw [List.map_map]; rfl]
      refine wa_nil ?_
      refine cd_all rfl ?_
      exact q
    · walk_at "dead"
theorem ok_are_rowsQT {f : Addr} {fd : FuncData} (F : FunD K "are_rows" "are_rows" (defArgs s_are_rows) (defBody s_are_rows) (defScope s_are_rows) [] [] f fd) (B : Bf mg) {CR : Addr} (hmR : mg "Row" = some (.ref CR)) (hSeq : HasFn P w K mg base 1 "is_sequence" S_is_seq) : FnOk P w K mg base CX0 2 f fd ["value"] (spOf K (S_areS K CR .tup)) := by
  refine fn_data (k := 1) F sc_are_rows (fun ds M Φ h => ?_) (fun cdv A outer s H E ds M Φ hr h => ?_)
  · obtain ⟨xs, r, rfl, hl, hq9, q⟩ := h
    all_goals rfl
  · obtain ⟨xs, r, rfl, hl, hq9, q⟩ := h
    refine ws_ret ?_
    refine we_and ?_
    refine wcf hSeq (hr.mono (by decide)) ?_
    refine wa_cons ?_
    refine wv 0 rfl ?_
    refine wa_nil ?_
    refine ⟨_, _, rfl, rfl, ?_⟩
    rw [show (("tuple" : String) == "list" || ("tuple" : String) == "tuple") = true by decide]
    refine ⟨_, rfl, fun hb => ?_, fun hb => ?_⟩
    · walk_at "tidy"
      refine we_one ?_
      refine wcB B.all bt_all ?_
      refine wa_cons ?_
      refine lcMapT (own := [("row", 1)]) (j := 1) sc_are_rows.nd ?_ (blkOk_by (N := ["value", "row"]) (sc := defScope s_are_rows) (by decide +kernel)) (fun _ _ _ _ _ => pg_name (i := 1) sc_are_rows.nd rfl (Or.inl rfl))
      refine wv 0 rfl ?_
      refine ⟨xs, fun y => .bl (r y), rfl, hl, fun i yy hy l out s H C cl fp => ?_, ?_⟩
      · rcases hq9 yy (List.mem_of_getElem? hy) with ⟨t9, ht9, hk9⟩ | ⟨C9, fs9, rfl, hI9, hk9⟩
        · exact wcB B.isi boot_isinstance (wa_cons (wv 1 rfl (wa_cons (wgl hmR (wa_nil (cd_isiTC ht9 hk9 ⟨rfl, rfl⟩))))))
        · exact wcB B.isi boot_isinstance (wa_cons (wv 1 rfl (wa_cons (wgl hmR (wa_nil (cd_isiC (.inl rfl) hI9 hk9 ⟨rfl, rfl⟩))))))
      rw [show (xs.map fun y => D.bl (r y)) = (xs.map r).map D.bl by rw [List.map_map]; rfl]
      refine wa_nil ?_
      refine cd_all rfl ?_
      exact q
    · walk_at "dead"
theorem ok_are_rowsQN {f : Addr} {fd : FuncData} (F : FunD K "are_rows" "are_rows" (defArgs s_are_rows) (defBody s_are_rows) (defScope s_are_rows) [] [] f fd) (B : Bf mg) {CR : Addr} (hmR : mg "Row" = some (.ref CR)) (hSeq : HasFn P w K mg base 1 "is_sequence" S_is_seq) : FnOk P w K mg base CX0 2 f fd ["value"] (spOf K S_areN) := by
  refine fn_data (k := 1) F sc_are_rows (fun ds M Φ h => ?_) (fun cdv A outer s H E ds M Φ hr h => ?_)
  · obtain ⟨d, t, rfl, ht, hns, q⟩ := h
    all_goals rfl
  · obtain ⟨d, t, rfl, ht, hns, q⟩ := h
    refine ws_ret ?_
    refine we_and ?_
    refine wcf hSeq (hr.mono (by decide)) ?_
    refine wa_cons ?_
    refine wv 0 rfl ?_
    refine wa_nil ?_
    refine ⟨_, _, rfl, ht, ?_⟩
    rw [hns]
    refine ⟨_, rfl, fun hb => ?_, fun hb => ?_⟩
    · walk_at "dead"
    · walk_at "tidy"
      exact q
theorem ok_are_rowsQO {f : Addr} {fd : FuncData} (F : FunD K "are_rows" "are_rows" (defArgs s_are_rows) (defBody s_are_rows) (defScope s_are_rows) [] [] f fd) (B : Bf mg) (hSeqO : HasFn P w K mg base 1 "is_sequence" (S_is_seqO K)) : FnOk P w K mg base CX0 2 f fd ["value"] (spOf K (S_areO K)) := by
  refine fn_data (k := 1) F sc_are_rows (fun ds M Φ h => ?_) (fun cdv A outer s H E ds M Φ hr h => ?_)
  · obtain ⟨C, fs, rfl, hI, hk1, hk2, q⟩ := h
    all_goals rfl
  · obtain ⟨C, fs, rfl, hI, hk1, hk2, q⟩ := h
    refine ws_ret ?_
    refine we_and ?_
    refine wcf hSeqO (hr.mono (by decide)) ?_
    refine wa_cons ?_
    refine wv 0 rfl ?_
    refine wa_nil ?_
    refine ⟨C, fs, rfl, hI, hk1, hk2, ?_⟩
    refine ⟨_, rfl, fun hb => ?_, fun hb => ?_⟩
    · walk_at "dead"
    · walk_at "tidy"
      exact q
theorem ok_Go_initA {f : Addr} {fd : FuncData} (F : FunD K "__init__" "Go.__init__" (defArgs s_Go_init) (defBody s_Go_init) (defScope s_Go_init) [] [] f fd) (B : Bf mg) {c : Cs} (hC : RwC K c) {CI : Addr} (hEx : HasEx P w K mg base 1 CI "InvalidRow" "word") (hP : PG2 K mg) (hIn : HasFn P w K mg base 1 "is_integer" S_is_integer) : FnOk P w K mg base (L2.CX P w) 3 f fd ["self", "way", "steps"] (spOfX K (S_goA c CI)) := by
  refine fn_dataX (k := 2) F sc_Go_init (fun ds M Φ Ξ h => ?_) (fun cdv A outer s H E ds M Φ Ξ hr h => ?_)
  · obtain ⟨l, a, b, i, j, M', rfl, rfl, qa, qb, q1, q2⟩ := h
    all_goals rfl
  · obtain ⟨l, a, b, i, j, M', rfl, rfl, qa, qb, q1, q2⟩ := h
    obtain ⟨a3, g3, t3⟩ := hP.ways
    rcases qa with ⟨x9, rfl, rfl⟩ | ⟨h0, ⟨t, ht⟩, rfl⟩
    · by_cases h1 : x9 ∈ WAYS
      · rw [decide_eq_true h1] at q1 q2
        rcases qb with ⟨n9, rfl, rfl⟩ | ⟨h2, ⟨t2, ht2⟩, rfl⟩
        · by_cases h3 : 1 ≤ n9
          · by_cases h4 : n9 ≤ 9
            · rw [decide_eq_true ⟨h3, h4⟩] at q1 q2
              refine wx_if ?_
              refine wt_bool ?_
              refine ww_or ?_
              refine wt_not ?_
              refine wt_val ?_ (by intro _; rfl)
              refine wcB B.isi boot_isinstance ?_
              refine wa_cons ?_
              refine wv 1 rfl ?_
              refine wa_cons ?_
              refine wbt B.str boot_str ?_
              refine wa_nil ?_
              refine cd_isSt (t := "str") rfl ?_
              walk_at "truth"
              refine ⟨fun hb => ?_, fun hb => ?_⟩
              · walk_at "dead"
              · walk_at "tidy"
                refine ww_or1 ?_
                refine wt_cmp ?_ (by rfl)
                refine wv 1 rfl ?_
                refine we_gtup g3 t3 ?_
                refine od_niTS (zs := WAYS) ?_
                rw [decide_eq_true h1]
                refine ⟨_, rfl, ?_⟩
                refine ⟨fun hb => ?_, fun hb => ?_⟩
                · walk_at "dead"
                · walk_at "tidy"
                  refine wx_nil ?_
                  refine wx_if ?_
                  refine wt_bool ?_
                  refine ww_or ?_
                  refine wt_not ?_
                  refine wt_val ?_ (by intro _; rfl)
                  refine wcf hIn (hr.mono (by decide)) ?_
                  refine wa_cons ?_
                  refine wv 2 rfl ?_
                  refine wa_nil ?_
                  refine ⟨_, _, rfl, rfl, ?_⟩
                  walk_at "truth"
                  refine ⟨fun hb => ?_, fun hb => ?_⟩
                  · walk_at "dead"
                  · walk_at "tidy"
                    refine ww_or1 ?_
                    refine wt_not ?_
                    refine wt_chain ?_
                    refine we_int ?_
                    refine wv 2 rfl ?_
                    refine od_le ?_
                    first
                    | rw [decide_eq_true h3]
                    | rw [decide_eq_true h4]
                    refine ⟨_, rfl, fun hb => ?_, fun hb => ?_⟩
                    · first
                      | (walk_at "dead")
                      | (
                        walk_at "tidy"
                        refine we_gint hP.most ?_
                        refine od_le ?_
                        first
                        | rw [decide_eq_true h3]
                        | rw [decide_eq_true h4]
                        refine ⟨_, rfl, ?_⟩
                        refine ⟨fun hb => ?_, fun hb => ?_⟩
                        · first
                          | (walk_at "dead")
                          | (
                            walk_at "tidy"
                            refine wx_raise hEx (hr.mono (by decide)) ?_
                            refine wa_cons ?_
                            refine we_str ?_
                            refine wa_nil ?_
                            exact ⟨_, rfl, q1 _ rfl⟩)
                        · first
                          | (walk_at "dead")
                          | (
                            walk_at "tidy"
                            refine wx_nil ?_
                            refine wx_1 (w1_fld ?_ rfl)
                            refine wv 1 rfl ?_
                            refine wv 0 rfl ?_
                            refine ⟨0, l, c.go, _, rfl, rfl, hC.go, hC.gw, (show 0 < 1000 by decide), ?_⟩
                            refine wx_wk (Γ' := [some (.adr l), some (.str x9), some (.int n9)]) (M' := (l, .ins c.go [("way", .str x9)]) :: M') (by repeat (first | exact wkE | refine wkS ?_ | refine wkN ?_)) (List.Sublist.refl _) ?_
                            refine wx_1 (w1_fld ?_ rfl)
                            refine wv 2 rfl ?_
                            refine wv 0 rfl ?_
                            refine ⟨0, l, c.go, _, rfl, rfl, hC.go, hC.gs, (show 1 < 1000 by decide), ?_⟩
                            refine wx_wk (Γ' := [some (.adr l), some (.str x9), some (.int n9)]) (M' := (l, .ins c.go [("way", .str x9), ("steps", .int n9)]) :: M') (by repeat (first | exact wkE | refine wkS ?_ | refine wkN ?_)) (List.Sublist.refl _) ?_
                            refine wx_nil ?_
                            exact q2 rfl _))
                    · first
                      | (walk_at "dead")
                      | (
                        walk_at "tidy"
                        refine ⟨fun hb => ?_, fun hb => ?_⟩
                        · walk_at "tidy"
                          refine wx_raise hEx (hr.mono (by decide)) ?_
                          refine wa_cons ?_
                          refine we_str ?_
                          refine wa_nil ?_
                          exact ⟨_, rfl, q1 _ rfl⟩
                        · walk_at "dead")
            · rw [decide_eq_false (fun z => h4 z.2)] at q1 q2
              refine wx_if ?_
              refine wt_bool ?_
              refine ww_or ?_
              refine wt_not ?_
              refine wt_val ?_ (by intro _; rfl)
              refine wcB B.isi boot_isinstance ?_
              refine wa_cons ?_
              refine wv 1 rfl ?_
              refine wa_cons ?_
              refine wbt B.str boot_str ?_
              refine wa_nil ?_
              refine cd_isSt (t := "str") rfl ?_
              walk_at "truth"
              refine ⟨fun hb => ?_, fun hb => ?_⟩
              · walk_at "dead"
              · walk_at "tidy"
                refine ww_or1 ?_
                refine wt_cmp ?_ (by rfl)
                refine wv 1 rfl ?_
                refine we_gtup g3 t3 ?_
                refine od_niTS (zs := WAYS) ?_
                rw [decide_eq_true h1]
                refine ⟨_, rfl, ?_⟩
                refine ⟨fun hb => ?_, fun hb => ?_⟩
                · walk_at "dead"
                · walk_at "tidy"
                  refine wx_nil ?_
                  refine wx_if ?_
                  refine wt_bool ?_
                  refine ww_or ?_
                  refine wt_not ?_
                  refine wt_val ?_ (by intro _; rfl)
                  refine wcf hIn (hr.mono (by decide)) ?_
                  refine wa_cons ?_
                  refine wv 2 rfl ?_
                  refine wa_nil ?_
                  refine ⟨_, _, rfl, rfl, ?_⟩
                  walk_at "truth"
                  refine ⟨fun hb => ?_, fun hb => ?_⟩
                  · walk_at "dead"
                  · walk_at "tidy"
                    refine ww_or1 ?_
                    refine wt_not ?_
                    refine wt_chain ?_
                    refine we_int ?_
                    refine wv 2 rfl ?_
                    refine od_le ?_
                    first
                    | rw [decide_eq_true h3]
                    | rw [decide_eq_false h4]
                    refine ⟨_, rfl, fun hb => ?_, fun hb => ?_⟩
                    · first
                      | (walk_at "dead")
                      | (
                        walk_at "tidy"
                        refine we_gint hP.most ?_
                        refine od_le ?_
                        first
                        | rw [decide_eq_true h3]
                        | rw [decide_eq_false h4]
                        refine ⟨_, rfl, ?_⟩
                        refine ⟨fun hb => ?_, fun hb => ?_⟩
                        · first
                          | (walk_at "dead")
                          | (
                            walk_at "tidy"
                            refine wx_raise hEx (hr.mono (by decide)) ?_
                            refine wa_cons ?_
                            refine we_str ?_
                            refine wa_nil ?_
                            exact ⟨_, rfl, q1 _ rfl⟩)
                        · first
                          | (walk_at "dead")
                          | (
                            walk_at "tidy"
                            refine wx_nil ?_
                            skip))
                    · first
                      | (walk_at "dead")
                      | (
                        walk_at "tidy"
                        refine ⟨fun hb => ?_, fun hb => ?_⟩
                        · walk_at "tidy"
                          refine wx_raise hEx (hr.mono (by decide)) ?_
                          refine wa_cons ?_
                          refine we_str ?_
                          refine wa_nil ?_
                          exact ⟨_, rfl, q1 _ rfl⟩
                        · walk_at "dead")
          · rw [decide_eq_false (fun z => h3 z.1)] at q1 q2
            refine wx_if ?_
            refine wt_bool ?_
            refine ww_or ?_
            refine wt_not ?_
            refine wt_val ?_ (by intro _; rfl)
            refine wcB B.isi boot_isinstance ?_
            refine wa_cons ?_
            refine wv 1 rfl ?_
            refine wa_cons ?_
            refine wbt B.str boot_str ?_
            refine wa_nil ?_
            refine cd_isSt (t := "str") rfl ?_
            walk_at "truth"
            refine ⟨fun hb => ?_, fun hb => ?_⟩
            · walk_at "dead"
            · walk_at "tidy"
              refine ww_or1 ?_
              refine wt_cmp ?_ (by rfl)
              refine wv 1 rfl ?_
              refine we_gtup g3 t3 ?_
              refine od_niTS (zs := WAYS) ?_
              rw [decide_eq_true h1]
              refine ⟨_, rfl, ?_⟩
              refine ⟨fun hb => ?_, fun hb => ?_⟩
              · walk_at "dead"
              · walk_at "tidy"
                refine wx_nil ?_
                refine wx_if ?_
                refine wt_bool ?_
                refine ww_or ?_
                refine wt_not ?_
                refine wt_val ?_ (by intro _; rfl)
                refine wcf hIn (hr.mono (by decide)) ?_
                refine wa_cons ?_
                refine wv 2 rfl ?_
                refine wa_nil ?_
                refine ⟨_, _, rfl, rfl, ?_⟩
                walk_at "truth"
                refine ⟨fun hb => ?_, fun hb => ?_⟩
                · walk_at "dead"
                · walk_at "tidy"
                  refine ww_or1 ?_
                  refine wt_not ?_
                  refine wt_chain ?_
                  refine we_int ?_
                  refine wv 2 rfl ?_
                  refine od_le ?_
                  rw [decide_eq_false h3]
                  refine ⟨_, rfl, fun hb => ?_, fun hb => ?_⟩
                  · first
                    | (walk_at "dead")
                    | (
                      walk_at "tidy"
                      refine we_gint hP.most ?_
                      refine od_le ?_
                      rw [decide_eq_false h3]
                      refine ⟨_, rfl, ?_⟩
                      refine ⟨fun hb => ?_, fun hb => ?_⟩
                      · first
                        | (walk_at "dead")
                        | (
                          walk_at "tidy"
                          refine wx_raise hEx (hr.mono (by decide)) ?_
                          refine wa_cons ?_
                          refine we_str ?_
                          refine wa_nil ?_
                          exact ⟨_, rfl, q1 _ rfl⟩)
                      · first
                        | (walk_at "dead")
                        | (
                          walk_at "tidy"
                          refine wx_nil ?_
                          skip))
                  · first
                    | (walk_at "dead")
                    | (
                      walk_at "tidy"
                      refine ⟨fun hb => ?_, fun hb => ?_⟩
                      · walk_at "tidy"
                        refine wx_raise hEx (hr.mono (by decide)) ?_
                        refine wa_cons ?_
                        refine we_str ?_
                        refine wa_nil ?_
                        exact ⟨_, rfl, q1 _ rfl⟩
                      · walk_at "dead")
        · skip
          refine wx_if ?_
          refine wt_bool ?_
          refine ww_or ?_
          refine wt_not ?_
          refine wt_val ?_ (by intro _; rfl)
          refine wcB B.isi boot_isinstance ?_
          refine wa_cons ?_
          refine wv 1 rfl ?_
          refine wa_cons ?_
          refine wbt B.str boot_str ?_
          refine wa_nil ?_
          refine cd_isSt (t := "str") rfl ?_
          walk_at "truth"
          refine ⟨fun hb => ?_, fun hb => ?_⟩
          · walk_at "dead"
          · walk_at "tidy"
            refine ww_or1 ?_
            refine wt_cmp ?_ (by rfl)
            refine wv 1 rfl ?_
            refine we_gtup g3 t3 ?_
            refine od_niTS (zs := WAYS) ?_
            rw [decide_eq_true h1]
            refine ⟨_, rfl, ?_⟩
            refine ⟨fun hb => ?_, fun hb => ?_⟩
            · walk_at "dead"
            · walk_at "tidy"
              refine wx_nil ?_
              refine wx_if ?_
              refine wt_bool ?_
              refine ww_or ?_
              refine wt_not ?_
              refine wt_val ?_ (by intro _; rfl)
              refine wcf hIn (hr.mono (by decide)) ?_
              refine wa_cons ?_
              refine wv 2 rfl ?_
              refine wa_nil ?_
              refine ⟨_, _, rfl, ht2, ?_⟩
              rw [h2]
              walk_at "truth"
              refine ⟨fun hb => ?_, fun hb => ?_⟩
              · walk_at "tidy"
                refine ⟨fun hb => ?_, fun hb => ?_⟩
                · walk_at "tidy"
                  refine wx_raise hEx (hr.mono (by decide)) ?_
                  refine wa_cons ?_
                  refine we_str ?_
                  refine wa_nil ?_
                  exact ⟨_, rfl, q1 _ rfl⟩
                · walk_at "dead"
              · walk_at "dead"
      · rw [decide_eq_false h1] at q1 q2
        refine wx_if ?_
        refine wt_bool ?_
        refine ww_or ?_
        refine wt_not ?_
        refine wt_val ?_ (by intro _; rfl)
        refine wcB B.isi boot_isinstance ?_
        refine wa_cons ?_
        refine wv 1 rfl ?_
        refine wa_cons ?_
        refine wbt B.str boot_str ?_
        refine wa_nil ?_
        refine cd_isSt (t := "str") rfl ?_
        walk_at "truth"
        refine ⟨fun hb => ?_, fun hb => ?_⟩
        · walk_at "dead"
        · walk_at "tidy"
          refine ww_or1 ?_
          refine wt_cmp ?_ (by rfl)
          refine wv 1 rfl ?_
          refine we_gtup g3 t3 ?_
          refine od_niTS (zs := WAYS) ?_
          rw [decide_eq_false h1]
          refine ⟨_, rfl, ?_⟩
          refine ⟨fun hb => ?_, fun hb => ?_⟩
          · walk_at "tidy"
            refine wx_raise hEx (hr.mono (by decide)) ?_
            refine wa_cons ?_
            refine we_str ?_
            refine wa_nil ?_
            exact ⟨_, rfl, q1 _ rfl⟩
          · walk_at "dead"
    · skip
      refine wx_if ?_
      refine wt_bool ?_
      refine ww_or ?_
      refine wt_not ?_
      refine wt_val ?_ (by intro _; rfl)
      refine wcB B.isi boot_isinstance ?_
      refine wa_cons ?_
      refine wv 1 rfl ?_
      refine wa_cons ?_
      refine wbt B.str boot_str ?_
      refine wa_nil ?_
      refine cd_isSt ht ?_
      rw [h0]
      walk_at "truth"
      refine ⟨fun hb => ?_, fun hb => ?_⟩
      · walk_at "tidy"
        refine ⟨fun hb => ?_, fun hb => ?_⟩
        · walk_at "tidy"
          refine wx_raise hEx (hr.mono (by decide)) ?_
          refine wa_cons ?_
          refine we_str ?_
          refine wa_nil ?_
          exact ⟨_, rfl, q1 _ rfl⟩
        · walk_at "dead"
      · walk_at "dead"
theorem ok_Stop_initA {f : Addr} {fd : FuncData} (F : FunD K "__init__" "Stop.__init__" (defArgs s_Stop_init) (defBody s_Stop_init) (defScope s_Stop_init) [] [] f fd) (B : Bf mg) {c : Cs} (hC : RwC K c) {CI : Addr} (hEx : HasEx P w K mg base 1 CI "InvalidRow" "word") (hNm : HasFn P w K mg base 1 "is_name" S_is_name) : FnOk P w K mg base (L2.CX P w) 3 f fd ["self", "room"] (spOfX K (S_stopA c CI)) := by
  refine fn_dataX (k := 2) F sc_Stop_init (fun ds M Φ Ξ h => ?_) (fun cdv A outer s H E ds M Φ Ξ hr h => ?_)
  · obtain ⟨l, a, i, M', rfl, rfl, qa, q1, q2⟩ := h
    all_goals rfl
  · obtain ⟨l, a, i, M', rfl, rfl, qa, q1, q2⟩ := h
    cases i with
    | false =>
      refine wx_if ?_
      refine wt_not ?_
      refine wt_val ?_ (by intro _; rfl)
      refine wcf hNm (hr.mono (by decide)) ?_
      refine wa_cons ?_
      refine wv 1 rfl ?_
      refine wa_nil ?_
      obtain ⟨⟨t7, ht7⟩, hl7, he7⟩ := qa
      refine ⟨_, t7, rfl, ht7, hl7, ?_⟩
      rw [← he7]
      walk_at "truth"
      refine ⟨fun hb => ?_, fun hb => ?_⟩
      · walk_at "tidy"
        refine wx_raise hEx (hr.mono (by decide)) ?_
        refine wa_cons ?_
        refine we_str ?_
        refine wa_nil ?_
        exact ⟨_, rfl, q1 _ rfl⟩
      · walk_at "dead"
    | true =>
      refine wx_if ?_
      refine wt_not ?_
      refine wt_val ?_ (by intro _; rfl)
      refine wcf hNm (hr.mono (by decide)) ?_
      refine wa_cons ?_
      refine wv 1 rfl ?_
      refine wa_nil ?_
      obtain ⟨⟨t7, ht7⟩, hl7, he7⟩ := qa
      refine ⟨_, t7, rfl, ht7, hl7, ?_⟩
      rw [← he7]
      walk_at "truth"
      refine ⟨fun hb => ?_, fun hb => ?_⟩
      · walk_at "dead"
      · walk_at "tidy"
        refine wx_nil ?_
        refine wx_1 (w1_fld ?_ rfl)
        refine wv 1 rfl ?_
        refine wv 0 rfl ?_
        refine ⟨0, l, c.stop, _, rfl, rfl, hC.stop, hC.sr, (show 0 < 1000 by decide), ?_⟩
        refine wx_wk (Γ' := [some (.adr l), some (a)]) (M' := (l, .ins c.stop [("room", a)]) :: M') (by repeat (first | exact wkE | refine wkS ?_ | refine wkN ?_)) (List.Sublist.refl _) ?_
        refine wx_nil ?_
        exact q2 rfl _
theorem ok_If_initA {f : Addr} {fd : FuncData} (F : FunD K "__init__" "If.__init__" (defArgs s_If_init) (defBody s_If_init) (defScope s_If_init) [.ref df1] [] f fd) (B : Bf mg) {c : Cs} (hC : RwC K c) {CI : Addr} (hEx : HasEx P w K mg base 1 CI "InvalidRow" "word") {R : Addr} (hAr : HasFn P w K mg base 2 "are_rows" (S_areR K R)) (hTs : HasFn P w K mg base 2 "is_test" S_isTestA) : FnOk P w K mg base (L2.CX P w) 3 f fd ["self", "test", "rows", "others"] (spOfX K (S_blkA K R c.ifr "test" TsA CI)) := by
  refine fn_dataX (k := 2) F sc_If_init (fun ds M Φ Ξ h => ?_) (fun cdv A outer s H E ds M Φ Ξ hr h => ?_)
  · obtain ⟨l, a, b, e, i, j, k, M', rfl, rfl, qa, qb, qe, q1, q2⟩ := h
    all_goals rfl
  · obtain ⟨l, a, b, e, i, j, k, M', rfl, rfl, qa, qb, qe, q1, q2⟩ := h
    cases i with
    | false =>
      refine wx_if ?_
      refine wt_not ?_
      refine wt_val ?_ (by intro _; rfl)
      refine wcf hTs (hr.mono (by decide)) ?_
      refine wa_cons ?_
      refine wv 1 rfl ?_
      refine wa_nil ?_
      refine ⟨_, _, rfl, qa, ?_⟩
      walk_at "truth"
      refine ⟨fun hb => ?_, fun hb => ?_⟩
      · walk_at "tidy"
        refine wx_raise hEx (hr.mono (by decide)) ?_
        refine wa_cons ?_
        refine we_str ?_
        refine wa_nil ?_
        exact ⟨_, rfl, q1 _ rfl⟩
      · walk_at "dead"
    | true =>
      cases j with
      | false =>
        refine wx_if ?_
        refine wt_not ?_
        refine wt_val ?_ (by intro _; rfl)
        refine wcf hTs (hr.mono (by decide)) ?_
        refine wa_cons ?_
        refine wv 1 rfl ?_
        refine wa_nil ?_
        refine ⟨_, _, rfl, qa, ?_⟩
        walk_at "truth"
        refine ⟨fun hb => ?_, fun hb => ?_⟩
        · walk_at "dead"
        · walk_at "tidy"
          refine wx_nil ?_
          refine wx_if ?_
          refine wt_not ?_
          refine wt_val ?_ (by intro _; rfl)
          refine wcf hAr (hr.mono (by decide)) ?_
          refine wa_cons ?_
          refine wv 2 rfl ?_
          refine wa_nil ?_
          refine ⟨_, _, rfl, qb, ?_⟩
          walk_at "truth"
          refine ⟨fun hb => ?_, fun hb => ?_⟩
          · walk_at "tidy"
            refine wx_raise hEx (hr.mono (by decide)) ?_
            refine wa_cons ?_
            refine we_str ?_
            refine wa_nil ?_
            exact ⟨_, rfl, q1 _ rfl⟩
          · walk_at "dead"
      | true =>
        cases k with
        | false =>
          refine wx_if ?_
          refine wt_not ?_
          refine wt_val ?_ (by intro _; rfl)
          refine wcf hTs (hr.mono (by decide)) ?_
          refine wa_cons ?_
          refine wv 1 rfl ?_
          refine wa_nil ?_
          refine ⟨_, _, rfl, qa, ?_⟩
          walk_at "truth"
          refine ⟨fun hb => ?_, fun hb => ?_⟩
          · walk_at "dead"
          · walk_at "tidy"
            refine wx_nil ?_
            refine wx_if ?_
            refine wt_not ?_
            refine wt_val ?_ (by intro _; rfl)
            refine wcf hAr (hr.mono (by decide)) ?_
            refine wa_cons ?_
            refine wv 2 rfl ?_
            refine wa_nil ?_
            refine ⟨_, _, rfl, qb, ?_⟩
            walk_at "truth"
            refine ⟨fun hb => ?_, fun hb => ?_⟩
            · walk_at "dead"
            · walk_at "tidy"
              refine wx_nil ?_
              refine wx_if ?_
              refine wt_not ?_
              refine wt_val ?_ (by intro _; rfl)
              refine wcf hAr (hr.mono (by decide)) ?_
              refine wa_cons ?_
              refine wv 3 rfl ?_
              refine wa_nil ?_
              refine ⟨_, _, rfl, qe, ?_⟩
              walk_at "truth"
              refine ⟨fun hb => ?_, fun hb => ?_⟩
              · walk_at "tidy"
                refine wx_raise hEx (hr.mono (by decide)) ?_
                refine wa_cons ?_
                refine we_str ?_
                refine wa_nil ?_
                exact ⟨_, rfl, q1 _ rfl⟩
              · walk_at "dead"
        | true =>
          obtain ⟨xs9, hb9⟩ := are_seq qb
          obtain ⟨ys9, he9⟩ := are_seq qe
          refine wx_if ?_
          refine wt_not ?_
          refine wt_val ?_ (by intro _; rfl)
          refine wcf hTs (hr.mono (by decide)) ?_
          refine wa_cons ?_
          refine wv 1 rfl ?_
          refine wa_nil ?_
          refine ⟨_, _, rfl, qa, ?_⟩
          walk_at "truth"
          refine ⟨fun hb => ?_, fun hb => ?_⟩
          · walk_at "dead"
          · walk_at "tidy"
            refine wx_nil ?_
            refine wx_if ?_
            refine wt_not ?_
            refine wt_val ?_ (by intro _; rfl)
            refine wcf hAr (hr.mono (by decide)) ?_
            refine wa_cons ?_
            refine wv 2 rfl ?_
            refine wa_nil ?_
            refine ⟨_, _, rfl, qb, ?_⟩
            walk_at "truth"
            refine ⟨fun hb => ?_, fun hb => ?_⟩
            · walk_at "dead"
            · walk_at "tidy"
              refine wx_nil ?_
              refine wx_if ?_
              refine wt_not ?_
              refine wt_val ?_ (by intro _; rfl)
              refine wcf hAr (hr.mono (by decide)) ?_
              refine wa_cons ?_
              refine wv 3 rfl ?_
              refine wa_nil ?_
              refine ⟨_, _, rfl, qe, ?_⟩
              walk_at "truth"
              refine ⟨fun hb => ?_, fun hb => ?_⟩
              · walk_at "dead"
              · walk_at "tidy"
                refine wx_nil ?_
                refine wx_1 (w1_fld ?_ rfl)
                refine wv 1 rfl ?_
                refine wv 0 rfl ?_
                refine ⟨0, l, c.ifr, _, rfl, rfl, hC.ifr, hC.it, (show 0 < 1000 by decide), ?_⟩
                refine wx_wk (Γ' := [some (.adr l), some (a), some (b), some (e)]) (M' := (l, .ins c.ifr [("test", a)]) :: M') (by repeat (first | exact wkE | refine wkS ?_ | refine wkN ?_)) (List.Sublist.refl _) ?_
                refine wx_1 (w1_fld ?_ rfl)
                refine wcT B.tuple boot_tuple ?_
                refine wa_cons ?_
                refine wv 2 rfl ?_
                refine wa_nil ?_
                refine cd_tuple (hb9.imp id fun z => .inl z) ?_
                refine wv 0 rfl ?_
                refine ⟨0, l, c.ifr, _, rfl, rfl, hC.ifr, hC.ir, (show 1 < 1000 by decide), ?_⟩
                refine wx_wk (Γ' := [some (.adr l), some (a), some (b), some (e)]) (M' := (l, .ins c.ifr [("test", a), ("rows", .tup xs9)]) :: M') (by repeat (first | exact wkE | refine wkS ?_ | refine wkN ?_)) (List.Sublist.refl _) ?_
                refine wx_1 (w1_fld ?_ rfl)
                refine wcT B.tuple boot_tuple ?_
                refine wa_cons ?_
                refine wv 3 rfl ?_
                refine wa_nil ?_
                refine cd_tuple (he9.imp id fun z => .inl z) ?_
                refine wv 0 rfl ?_
                refine ⟨0, l, c.ifr, _, rfl, rfl, hC.ifr, hC.io, (show 2 < 1000 by decide), ?_⟩
                refine wx_wk (Γ' := [some (.adr l), some (a), some (b), some (e)]) (M' := (l, .ins c.ifr [("test", a), ("rows", .tup xs9), ("others", .tup ys9)]) :: M') (by repeat (first | exact wkE | refine wkS ?_ | refine wkN ?_)) (List.Sublist.refl _) ?_
                refine wx_nil ?_
                exact q2 rfl _
theorem ok_See_initA {f : Addr} {fd : FuncData} (F : FunD K "__init__" "See.__init__" (defArgs s_See_init) (defBody s_See_init) (defScope s_See_init) [.ref df1] [] f fd) (B : Bf mg) {c : Cs} (hC : RwC K c) {CI : Addr} (hEx : HasEx P w K mg base 1 CI "InvalidRow" "word") {R : Addr} (hAr : HasFn P w K mg base 2 "are_rows" (S_areR K R)) (hNm : HasFn P w K mg base 1 "is_name" S_is_name) : FnOk P w K mg base (L2.CX P w) 3 f fd ["self", "mark", "rows", "others"] (spOfX K (S_blkA K R c.see "mark" NameQ CI)) := by
  refine fn_dataX (k := 2) F sc_See_init (fun ds M Φ Ξ h => ?_) (fun cdv A outer s H E ds M Φ Ξ hr h => ?_)
  · obtain ⟨l, a, b, e, i, j, k, M', rfl, rfl, qa, qb, qe, q1, q2⟩ := h
    all_goals rfl
  · obtain ⟨l, a, b, e, i, j, k, M', rfl, rfl, qa, qb, qe, q1, q2⟩ := h
    cases i with
    | false =>
      refine wx_if ?_
      refine wt_not ?_
      refine wt_val ?_ (by intro _; rfl)
      refine wcf hNm (hr.mono (by decide)) ?_
      refine wa_cons ?_
      refine wv 1 rfl ?_
      refine wa_nil ?_
      obtain ⟨⟨t7, ht7⟩, hl7, he7⟩ := qa
      refine ⟨_, t7, rfl, ht7, hl7, ?_⟩
      rw [← he7]
      walk_at "truth"
      refine ⟨fun hb => ?_, fun hb => ?_⟩
      · walk_at "tidy"
        refine wx_raise hEx (hr.mono (by decide)) ?_
        refine wa_cons ?_
        refine we_str ?_
        refine wa_nil ?_
        exact ⟨_, rfl, q1 _ rfl⟩
      · walk_at "dead"
    | true =>
      cases j with
      | false =>
        refine wx_if ?_
        refine wt_not ?_
        refine wt_val ?_ (by intro _; rfl)
        refine wcf hNm (hr.mono (by decide)) ?_
        refine wa_cons ?_
        refine wv 1 rfl ?_
        refine wa_nil ?_
        obtain ⟨⟨t7, ht7⟩, hl7, he7⟩ := qa
        refine ⟨_, t7, rfl, ht7, hl7, ?_⟩
        rw [← he7]
        walk_at "truth"
        refine ⟨fun hb => ?_, fun hb => ?_⟩
        · walk_at "dead"
        · walk_at "tidy"
          refine wx_nil ?_
          refine wx_if ?_
          refine wt_not ?_
          refine wt_val ?_ (by intro _; rfl)
          refine wcf hAr (hr.mono (by decide)) ?_
          refine wa_cons ?_
          refine wv 2 rfl ?_
          refine wa_nil ?_
          refine ⟨_, _, rfl, qb, ?_⟩
          walk_at "truth"
          refine ⟨fun hb => ?_, fun hb => ?_⟩
          · walk_at "tidy"
            refine wx_raise hEx (hr.mono (by decide)) ?_
            refine wa_cons ?_
            refine we_str ?_
            refine wa_nil ?_
            exact ⟨_, rfl, q1 _ rfl⟩
          · walk_at "dead"
      | true =>
        cases k with
        | false =>
          refine wx_if ?_
          refine wt_not ?_
          refine wt_val ?_ (by intro _; rfl)
          refine wcf hNm (hr.mono (by decide)) ?_
          refine wa_cons ?_
          refine wv 1 rfl ?_
          refine wa_nil ?_
          obtain ⟨⟨t7, ht7⟩, hl7, he7⟩ := qa
          refine ⟨_, t7, rfl, ht7, hl7, ?_⟩
          rw [← he7]
          walk_at "truth"
          refine ⟨fun hb => ?_, fun hb => ?_⟩
          · walk_at "dead"
          · walk_at "tidy"
            refine wx_nil ?_
            refine wx_if ?_
            refine wt_not ?_
            refine wt_val ?_ (by intro _; rfl)
            refine wcf hAr (hr.mono (by decide)) ?_
            refine wa_cons ?_
            refine wv 2 rfl ?_
            refine wa_nil ?_
            refine ⟨_, _, rfl, qb, ?_⟩
            walk_at "truth"
            refine ⟨fun hb => ?_, fun hb => ?_⟩
            · walk_at "dead"
            · walk_at "tidy"
              refine wx_nil ?_
              refine wx_if ?_
              refine wt_not ?_
              refine wt_val ?_ (by intro _; rfl)
              refine wcf hAr (hr.mono (by decide)) ?_
              refine wa_cons ?_
              refine wv 3 rfl ?_
              refine wa_nil ?_
              refine ⟨_, _, rfl, qe, ?_⟩
              walk_at "truth"
              refine ⟨fun hb => ?_, fun hb => ?_⟩
              · walk_at "tidy"
                refine wx_raise hEx (hr.mono (by decide)) ?_
                refine wa_cons ?_
                refine we_str ?_
                refine wa_nil ?_
                exact ⟨_, rfl, q1 _ rfl⟩
              · walk_at "dead"
        | true =>
          obtain ⟨xs9, hb9⟩ := are_seq qb
          obtain ⟨ys9, he9⟩ := are_seq qe
          refine wx_if ?_
          refine wt_not ?_
          refine wt_val ?_ (by intro _; rfl)
          refine wcf hNm (hr.mono (by decide)) ?_
          refine wa_cons ?_
          refine wv 1 rfl ?_
          refine wa_nil ?_
          obtain ⟨⟨t7, ht7⟩, hl7, he7⟩ := qa
          refine ⟨_, t7, rfl, ht7, hl7, ?_⟩
          rw [← he7]
          walk_at "truth"
          refine ⟨fun hb => ?_, fun hb => ?_⟩
          · walk_at "dead"
          · walk_at "tidy"
            refine wx_nil ?_
            refine wx_if ?_
            refine wt_not ?_
            refine wt_val ?_ (by intro _; rfl)
            refine wcf hAr (hr.mono (by decide)) ?_
            refine wa_cons ?_
            refine wv 2 rfl ?_
            refine wa_nil ?_
            refine ⟨_, _, rfl, qb, ?_⟩
            walk_at "truth"
            refine ⟨fun hb => ?_, fun hb => ?_⟩
            · walk_at "dead"
            · walk_at "tidy"
              refine wx_nil ?_
              refine wx_if ?_
              refine wt_not ?_
              refine wt_val ?_ (by intro _; rfl)
              refine wcf hAr (hr.mono (by decide)) ?_
              refine wa_cons ?_
              refine wv 3 rfl ?_
              refine wa_nil ?_
              refine ⟨_, _, rfl, qe, ?_⟩
              walk_at "truth"
              refine ⟨fun hb => ?_, fun hb => ?_⟩
              · walk_at "dead"
              · walk_at "tidy"
                refine wx_nil ?_
                refine wx_1 (w1_fld ?_ rfl)
                refine wv 1 rfl ?_
                refine wv 0 rfl ?_
                refine ⟨0, l, c.see, _, rfl, rfl, hC.see, hC.em, (show 0 < 1000 by decide), ?_⟩
                refine wx_wk (Γ' := [some (.adr l), some (a), some (b), some (e)]) (M' := (l, .ins c.see [("mark", a)]) :: M') (by repeat (first | exact wkE | refine wkS ?_ | refine wkN ?_)) (List.Sublist.refl _) ?_
                refine wx_1 (w1_fld ?_ rfl)
                refine wcT B.tuple boot_tuple ?_
                refine wa_cons ?_
                refine wv 2 rfl ?_
                refine wa_nil ?_
                refine cd_tuple (hb9.imp id fun z => .inl z) ?_
                refine wv 0 rfl ?_
                refine ⟨0, l, c.see, _, rfl, rfl, hC.see, hC.er, (show 1 < 1000 by decide), ?_⟩
                refine wx_wk (Γ' := [some (.adr l), some (a), some (b), some (e)]) (M' := (l, .ins c.see [("mark", a), ("rows", .tup xs9)]) :: M') (by repeat (first | exact wkE | refine wkS ?_ | refine wkN ?_)) (List.Sublist.refl _) ?_
                refine wx_1 (w1_fld ?_ rfl)
                refine wcT B.tuple boot_tuple ?_
                refine wa_cons ?_
                refine wv 3 rfl ?_
                refine wa_nil ?_
                refine cd_tuple (he9.imp id fun z => .inl z) ?_
                refine wv 0 rfl ?_
                refine ⟨0, l, c.see, _, rfl, rfl, hC.see, hC.eo, (show 2 < 1000 by decide), ?_⟩
                refine wx_wk (Γ' := [some (.adr l), some (a), some (b), some (e)]) (M' := (l, .ins c.see [("mark", a), ("rows", .tup xs9), ("others", .tup ys9)]) :: M') (by repeat (first | exact wkE | refine wkS ?_ | refine wkN ?_)) (List.Sublist.refl _) ?_
                refine wx_nil ?_
                exact q2 rfl _
theorem ok_While_initA {f : Addr} {fd : FuncData} (F : FunD K "__init__" "While.__init__" (defArgs s_While_init) (defBody s_While_init) (defScope s_While_init) [] [] f fd) (B : Bf mg) {c : Cs} (hC : RwC K c) {CI : Addr} (hEx : HasEx P w K mg base 1 CI "InvalidRow" "word") {R : Addr} (hAr : HasFn P w K mg base 2 "are_rows" (S_areR K R)) (hTs : HasFn P w K mg base 2 "is_test" S_isTestA) (hmG : mg "Go" = some (.ref c.go)) : FnOk P w K mg base (L2.CX P w) 3 f fd ["self", "test", "rows"] (spOfX K (S_whiA K R c CI)) := by
  refine fn_dataX (k := 2) F sc_While_init (fun ds M Φ Ξ h => ?_) (fun cdv A outer s H E ds M Φ Ξ hr h => ?_)
  · obtain ⟨l, a, b, i, j, M', rfl, rfl, qa, qb, q1, q2⟩ := h
    all_goals rfl
  · obtain ⟨l, a, b, i, j, M', rfl, rfl, qa, qb, q1, q2⟩ := h
    cases i with
    | false =>
      refine wx_if ?_
      refine wt_not ?_
      refine wt_val ?_ (by intro _; rfl)
      refine wcf hTs (hr.mono (by decide)) ?_
      refine wa_cons ?_
      refine wv 1 rfl ?_
      refine wa_nil ?_
      refine ⟨_, _, rfl, qa, ?_⟩
      walk_at "truth"
      refine ⟨fun hb => ?_, fun hb => ?_⟩
      · walk_at "tidy"
        refine wx_raise hEx (hr.mono (by decide)) ?_
        refine wa_cons ?_
        refine we_str ?_
        refine wa_nil ?_
        exact ⟨_, rfl, q1 _ rfl⟩
      · walk_at "dead"
    | true =>
      rcases qb with ⟨hq9, rfl⟩ | ⟨hq9, hb9, rfl⟩ | ⟨C9, f9, xs9, hq9, hb9, hI9, hk9⟩
      · skip
        refine wx_if ?_
        refine wt_not ?_
        refine wt_val ?_ (by intro _; rfl)
        refine wcf hTs (hr.mono (by decide)) ?_
        refine wa_cons ?_
        refine wv 1 rfl ?_
        refine wa_nil ?_
        refine ⟨_, _, rfl, qa, ?_⟩
        walk_at "truth"
        refine ⟨fun hb => ?_, fun hb => ?_⟩
        · walk_at "dead"
        · walk_at "tidy"
          refine wx_nil ?_
          refine wx_if ?_
          refine wt_bool ?_
          refine ww_or ?_
          refine wt_not ?_
          refine wt_val ?_ (by intro _; rfl)
          refine wcf hAr (hr.mono (by decide)) ?_
          refine wa_cons ?_
          refine wv 2 rfl ?_
          refine wa_nil ?_
          refine ⟨_, _, rfl, hq9, ?_⟩
          walk_at "truth"
          refine ⟨fun hb => ?_, fun hb => ?_⟩
          · walk_at "tidy"
            refine ⟨fun hb => ?_, fun hb => ?_⟩
            · walk_at "tidy"
              refine wx_raise hEx (hr.mono (by decide)) ?_
              refine wa_cons ?_
              refine we_str ?_
              refine wa_nil ?_
              exact ⟨_, rfl, q1 _ rfl⟩
            · walk_at "dead"
          · walk_at "dead"
      · rcases hb9 with rfl | rfl
        · skip
          refine wx_if ?_
          refine wt_not ?_
          refine wt_val ?_ (by intro _; rfl)
          refine wcf hTs (hr.mono (by decide)) ?_
          refine wa_cons ?_
          refine wv 1 rfl ?_
          refine wa_nil ?_
          refine ⟨_, _, rfl, qa, ?_⟩
          walk_at "truth"
          refine ⟨fun hb => ?_, fun hb => ?_⟩
          · walk_at "dead"
          · walk_at "tidy"
            refine wx_nil ?_
            refine wx_if ?_
            refine wt_bool ?_
            refine ww_or ?_
            refine wt_not ?_
            refine wt_val ?_ (by intro _; rfl)
            refine wcf hAr (hr.mono (by decide)) ?_
            refine wa_cons ?_
            refine wv 2 rfl ?_
            refine wa_nil ?_
            refine ⟨_, _, rfl, hq9, ?_⟩
            walk_at "truth"
            refine ⟨fun hb => ?_, fun hb => ?_⟩
            · walk_at "dead"
            · walk_at "tidy"
              refine ww_or ?_
              refine wt_cmp ?_ (nomark _)
              refine wcB B.len boot_len ?_
              refine wa_cons ?_
              refine wv 2 rfl ?_
              refine wa_nil ?_
              first
              | refine cd_len_lst ?_
              | refine cd_len_tup ?_
              refine we_int ?_
              refine od_eq ?_
              rw [show decide (((([] : List D)).length : Int) = 0) = true from rfl]
              refine ⟨_, rfl, ?_⟩
              refine ⟨fun hb => ?_, fun hb => ?_⟩
              · walk_at "tidy"
                refine ⟨fun hb => ?_, fun hb => ?_⟩
                · walk_at "tidy"
                  refine wx_raise hEx (hr.mono (by decide)) ?_
                  refine wa_cons ?_
                  refine we_str ?_
                  refine wa_nil ?_
                  exact ⟨_, rfl, q1 _ rfl⟩
                · walk_at "dead"
              · walk_at "dead"
        · skip
          refine wx_if ?_
          refine wt_not ?_
          refine wt_val ?_ (by intro _; rfl)
          refine wcf hTs (hr.mono (by decide)) ?_
          refine wa_cons ?_
          refine wv 1 rfl ?_
          refine wa_nil ?_
          refine ⟨_, _, rfl, qa, ?_⟩
          walk_at "truth"
          refine ⟨fun hb => ?_, fun hb => ?_⟩
          · walk_at "dead"
          · walk_at "tidy"
            refine wx_nil ?_
            refine wx_if ?_
            refine wt_bool ?_
            refine ww_or ?_
            refine wt_not ?_
            refine wt_val ?_ (by intro _; rfl)
            refine wcf hAr (hr.mono (by decide)) ?_
            refine wa_cons ?_
            refine wv 2 rfl ?_
            refine wa_nil ?_
            refine ⟨_, _, rfl, hq9, ?_⟩
            walk_at "truth"
            refine ⟨fun hb => ?_, fun hb => ?_⟩
            · walk_at "dead"
            · walk_at "tidy"
              refine ww_or ?_
              refine wt_cmp ?_ (nomark _)
              refine wcB B.len boot_len ?_
              refine wa_cons ?_
              refine wv 2 rfl ?_
              refine wa_nil ?_
              first
              | refine cd_len_lst ?_
              | refine cd_len_tup ?_
              refine we_int ?_
              refine od_eq ?_
              rw [show decide (((([] : List D)).length : Int) = 0) = true from rfl]
              refine ⟨_, rfl, ?_⟩
              refine ⟨fun hb => ?_, fun hb => ?_⟩
              · walk_at "tidy"
                refine ⟨fun hb => ?_, fun hb => ?_⟩
                · walk_at "tidy"
                  refine wx_raise hEx (hr.mono (by decide)) ?_
                  refine wa_cons ?_
                  refine we_str ?_
                  refine wa_nil ?_
                  exact ⟨_, rfl, q1 _ rfl⟩
                · walk_at "dead"
              · walk_at "dead"
      · rcases hb9 with rfl | rfl
        · cases j with
          | false =>
            refine wx_if ?_
            refine wt_not ?_
            refine wt_val ?_ (by intro _; rfl)
            refine wcf hTs (hr.mono (by decide)) ?_
            refine wa_cons ?_
            refine wv 1 rfl ?_
            refine wa_nil ?_
            refine ⟨_, _, rfl, qa, ?_⟩
            walk_at "truth"
            refine ⟨fun hb => ?_, fun hb => ?_⟩
            · walk_at "dead"
            · walk_at "tidy"
              refine wx_nil ?_
              refine wx_if ?_
              refine wt_bool ?_
              refine ww_or ?_
              refine wt_not ?_
              refine wt_val ?_ (by intro _; rfl)
              refine wcf hAr (hr.mono (by decide)) ?_
              refine wa_cons ?_
              refine wv 2 rfl ?_
              refine wa_nil ?_
              refine ⟨_, _, rfl, hq9, ?_⟩
              walk_at "truth"
              refine ⟨fun hb => ?_, fun hb => ?_⟩
              · walk_at "dead"
              · walk_at "tidy"
                refine ww_or ?_
                refine wt_cmp ?_ (nomark _)
                refine wcB B.len boot_len ?_
                refine wa_cons ?_
                refine wv 2 rfl ?_
                refine wa_nil ?_
                first
                | refine cd_len_lst ?_
                | refine cd_len_tup ?_
                refine we_int ?_
                refine od_eq ?_
                rw [decide_eq_false (by rw [List.length_cons]; omega)]
                refine ⟨_, rfl, ?_⟩
                refine ⟨fun hb => ?_, fun hb => ?_⟩
                · walk_at "dead"
                · walk_at "tidy"
                  refine ww_or1 ?_
                  refine wt_not ?_
                  refine wt_val ?_ (by intro _; rfl)
                  refine wcB B.isi boot_isinstance ?_
                  refine wa_cons ?_
                  refine we_ix ?_ (fun _ _ => rfl)
                  refine wv 2 rfl ?_
                  refine we_int ?_
                  first
                  | refine ix_lst (j := 0) rfl rfl ?_
                  | refine ix_tup (j := 0) rfl rfl ?_
                  refine wa_cons ?_
                  refine wgl hmG ?_
                  refine wa_nil ?_
                  refine cd_isiC (.inl rfl) hI9 hk9 ?_
                  walk_at "truth"
                  refine ⟨fun hb => ?_, fun hb => ?_⟩
                  · walk_at "tidy"
                    refine wx_raise hEx (hr.mono (by decide)) ?_
                    refine wa_cons ?_
                    refine we_str ?_
                    refine wa_nil ?_
                    exact ⟨_, rfl, q1 _ rfl⟩
                  · walk_at "dead"
          | true =>
            refine wx_if ?_
            refine wt_not ?_
            refine wt_val ?_ (by intro _; rfl)
            refine wcf hTs (hr.mono (by decide)) ?_
            refine wa_cons ?_
            refine wv 1 rfl ?_
            refine wa_nil ?_
            refine ⟨_, _, rfl, qa, ?_⟩
            walk_at "truth"
            refine ⟨fun hb => ?_, fun hb => ?_⟩
            · walk_at "dead"
            · walk_at "tidy"
              refine wx_nil ?_
              refine wx_if ?_
              refine wt_bool ?_
              refine ww_or ?_
              refine wt_not ?_
              refine wt_val ?_ (by intro _; rfl)
              refine wcf hAr (hr.mono (by decide)) ?_
              refine wa_cons ?_
              refine wv 2 rfl ?_
              refine wa_nil ?_
              refine ⟨_, _, rfl, hq9, ?_⟩
              walk_at "truth"
              refine ⟨fun hb => ?_, fun hb => ?_⟩
              · walk_at "dead"
              · walk_at "tidy"
                refine ww_or ?_
                refine wt_cmp ?_ (nomark _)
                refine wcB B.len boot_len ?_
                refine wa_cons ?_
                refine wv 2 rfl ?_
                refine wa_nil ?_
                first
                | refine cd_len_lst ?_
                | refine cd_len_tup ?_
                refine we_int ?_
                refine od_eq ?_
                rw [decide_eq_false (by rw [List.length_cons]; omega)]
                refine ⟨_, rfl, ?_⟩
                refine ⟨fun hb => ?_, fun hb => ?_⟩
                · walk_at "dead"
                · walk_at "tidy"
                  refine ww_or1 ?_
                  refine wt_not ?_
                  refine wt_val ?_ (by intro _; rfl)
                  refine wcB B.isi boot_isinstance ?_
                  refine wa_cons ?_
                  refine we_ix ?_ (fun _ _ => rfl)
                  refine wv 2 rfl ?_
                  refine we_int ?_
                  first
                  | refine ix_lst (j := 0) rfl rfl ?_
                  | refine ix_tup (j := 0) rfl rfl ?_
                  refine wa_cons ?_
                  refine wgl hmG ?_
                  refine wa_nil ?_
                  refine cd_isiC (.inl rfl) hI9 hk9 ?_
                  walk_at "truth"
                  refine ⟨fun hb => ?_, fun hb => ?_⟩
                  · walk_at "dead"
                  · walk_at "tidy"
                    refine wx_nil ?_
                    refine wx_1 (w1_fld ?_ rfl)
                    refine wv 1 rfl ?_
                    refine wv 0 rfl ?_
                    refine ⟨0, l, c.whi, _, rfl, rfl, hC.whi, hC.wt, (show 0 < 1000 by decide), ?_⟩
                    refine wx_wk (Γ' := [some (.adr l), some (a), some (.lst (.obj C9 f9 :: xs9))]) (M' := (l, .ins c.whi [("test", a)]) :: M') (by repeat (first | exact wkE | refine wkS ?_ | refine wkN ?_)) (List.Sublist.refl _) ?_
                    refine wx_1 (w1_fld ?_ rfl)
                    refine wcT B.tuple boot_tuple ?_
                    refine wa_cons ?_
                    refine wv 2 rfl ?_
                    refine wa_nil ?_
                    first
                    | refine cd_tuple (.inl rfl) ?_
                    | refine cd_tuple (.inr (.inl rfl)) ?_
                    refine wv 0 rfl ?_
                    refine ⟨0, l, c.whi, _, rfl, rfl, hC.whi, hC.wr, (show 1 < 1000 by decide), ?_⟩
                    refine wx_wk (Γ' := [some (.adr l), some (a), some (.lst (.obj C9 f9 :: xs9))]) (M' := (l, .ins c.whi [("test", a), ("rows", .tup (.obj C9 f9 :: xs9))]) :: M') (by repeat (first | exact wkE | refine wkS ?_ | refine wkN ?_)) (List.Sublist.refl _) ?_
                    refine wx_nil ?_
                    exact q2 rfl _
        · cases j with
          | false =>
            refine wx_if ?_
            refine wt_not ?_
            refine wt_val ?_ (by intro _; rfl)
            refine wcf hTs (hr.mono (by decide)) ?_
            refine wa_cons ?_
            refine wv 1 rfl ?_
            refine wa_nil ?_
            refine ⟨_, _, rfl, qa, ?_⟩
            walk_at "truth"
            refine ⟨fun hb => ?_, fun hb => ?_⟩
            · walk_at "dead"
            · walk_at "tidy"
              refine wx_nil ?_
              refine wx_if ?_
              refine wt_bool ?_
              refine ww_or ?_
              refine wt_not ?_
              refine wt_val ?_ (by intro _; rfl)
              refine wcf hAr (hr.mono (by decide)) ?_
              refine wa_cons ?_
              refine wv 2 rfl ?_
              refine wa_nil ?_
              refine ⟨_, _, rfl, hq9, ?_⟩
              walk_at "truth"
              refine ⟨fun hb => ?_, fun hb => ?_⟩
              · walk_at "dead"
              · walk_at "tidy"
                refine ww_or ?_
                refine wt_cmp ?_ (nomark _)
                refine wcB B.len boot_len ?_
                refine wa_cons ?_
                refine wv 2 rfl ?_
                refine wa_nil ?_
                first
                | refine cd_len_lst ?_
                | refine cd_len_tup ?_
                refine we_int ?_
                refine od_eq ?_
                rw [decide_eq_false (by rw [List.length_cons]; omega)]
                refine ⟨_, rfl, ?_⟩
                refine ⟨fun hb => ?_, fun hb => ?_⟩
                · walk_at "dead"
                · walk_at "tidy"
                  refine ww_or1 ?_
                  refine wt_not ?_
                  refine wt_val ?_ (by intro _; rfl)
                  refine wcB B.isi boot_isinstance ?_
                  refine wa_cons ?_
                  refine we_ix ?_ (fun _ _ => rfl)
                  refine wv 2 rfl ?_
                  refine we_int ?_
                  first
                  | refine ix_lst (j := 0) rfl rfl ?_
                  | refine ix_tup (j := 0) rfl rfl ?_
                  refine wa_cons ?_
                  refine wgl hmG ?_
                  refine wa_nil ?_
                  refine cd_isiC (.inl rfl) hI9 hk9 ?_
                  walk_at "truth"
                  refine ⟨fun hb => ?_, fun hb => ?_⟩
                  · walk_at "tidy"
                    refine wx_raise hEx (hr.mono (by decide)) ?_
                    refine wa_cons ?_
                    refine we_str ?_
                    refine wa_nil ?_
                    exact ⟨_, rfl, q1 _ rfl⟩
                  · walk_at "dead"
          | true =>
            refine wx_if ?_
            refine wt_not ?_
            refine wt_val ?_ (by intro _; rfl)
            refine wcf hTs (hr.mono (by decide)) ?_
            refine wa_cons ?_
            refine wv 1 rfl ?_
            refine wa_nil ?_
            refine ⟨_, _, rfl, qa, ?_⟩
            walk_at "truth"
            refine ⟨fun hb => ?_, fun hb => ?_⟩
            · walk_at "dead"
            · walk_at "tidy"
              refine wx_nil ?_
              refine wx_if ?_
              refine wt_bool ?_
              refine ww_or ?_
              refine wt_not ?_
              refine wt_val ?_ (by intro _; rfl)
              refine wcf hAr (hr.mono (by decide)) ?_
              refine wa_cons ?_
              refine wv 2 rfl ?_
              refine wa_nil ?_
              refine ⟨_, _, rfl, hq9, ?_⟩
              walk_at "truth"
              refine ⟨fun hb => ?_, fun hb => ?_⟩
              · walk_at "dead"
              · walk_at "tidy"
                refine ww_or ?_
                refine wt_cmp ?_ (nomark _)
                refine wcB B.len boot_len ?_
                refine wa_cons ?_
                refine wv 2 rfl ?_
                refine wa_nil ?_
                first
                | refine cd_len_lst ?_
                | refine cd_len_tup ?_
                refine we_int ?_
                refine od_eq ?_
                rw [decide_eq_false (by rw [List.length_cons]; omega)]
                refine ⟨_, rfl, ?_⟩
                refine ⟨fun hb => ?_, fun hb => ?_⟩
                · walk_at "dead"
                · walk_at "tidy"
                  refine ww_or1 ?_
                  refine wt_not ?_
                  refine wt_val ?_ (by intro _; rfl)
                  refine wcB B.isi boot_isinstance ?_
                  refine wa_cons ?_
                  refine we_ix ?_ (fun _ _ => rfl)
                  refine wv 2 rfl ?_
                  refine we_int ?_
                  first
                  | refine ix_lst (j := 0) rfl rfl ?_
                  | refine ix_tup (j := 0) rfl rfl ?_
                  refine wa_cons ?_
                  refine wgl hmG ?_
                  refine wa_nil ?_
                  refine cd_isiC (.inl rfl) hI9 hk9 ?_
                  walk_at "truth"
                  refine ⟨fun hb => ?_, fun hb => ?_⟩
                  · walk_at "dead"
                  · walk_at "tidy"
                    refine wx_nil ?_
                    refine wx_1 (w1_fld ?_ rfl)
                    refine wv 1 rfl ?_
                    refine wv 0 rfl ?_
                    refine ⟨0, l, c.whi, _, rfl, rfl, hC.whi, hC.wt, (show 0 < 1000 by decide), ?_⟩
                    refine wx_wk (Γ' := [some (.adr l), some (a), some (.tup (.obj C9 f9 :: xs9))]) (M' := (l, .ins c.whi [("test", a)]) :: M') (by repeat (first | exact wkE | refine wkS ?_ | refine wkN ?_)) (List.Sublist.refl _) ?_
                    refine wx_1 (w1_fld ?_ rfl)
                    refine wcT B.tuple boot_tuple ?_
                    refine wa_cons ?_
                    refine wv 2 rfl ?_
                    refine wa_nil ?_
                    first
                    | refine cd_tuple (.inl rfl) ?_
                    | refine cd_tuple (.inr (.inl rfl)) ?_
                    refine wv 0 rfl ?_
                    refine ⟨0, l, c.whi, _, rfl, rfl, hC.whi, hC.wr, (show 1 < 1000 by decide), ?_⟩
                    refine wx_wk (Γ' := [some (.adr l), some (a), some (.tup (.obj C9 f9 :: xs9))]) (M' := (l, .ins c.whi [("test", a), ("rows", .tup (.obj C9 f9 :: xs9))]) :: M') (by repeat (first | exact wkE | refine wkS ?_ | refine wkN ?_)) (List.Sublist.refl _) ?_
                    refine wx_nil ?_
                    exact q2 rfl _
end
end Sl57
set_option Elab.async false
set_option linter.all false
set_option maxRecDepth 100000
set_option maxHeartbeats 4000000
namespace Sl57
open PySem PySem.Spec PyProof.Rows L2 Dt
set_option hygiene false
local macro_rules | `(tactic| walk_at "op") => `(tactic| (first
  | refine od_add ?_ | refine od_sub ?_ | refine od_lt ?_ | refine od_le ?_ | refine od_gt ?_ | refine od_ge ?_ | refine od_eq ?_ | refine od_ne ?_ | refine od_is ?_ | refine od_isn ?_
  | refine od_eqS ?_ | refine od_neS ?_ | refine od_eqB ?_ | refine od_neB ?_))
local macro_rules | `(tactic| walk_at "dead") => `(tactic| (first
  | (cases hb; done)
  | (exact absurd (show false = true from hb) (by decide))
  | (exact absurd (show true = false from hb) (by decide))
  | (exact absurd hb (by decide))
  | (exfalso; simp only [decide_eq_true_eq, decide_eq_false_iff_not, Bool.not_eq_true', Bool.not_eq_false'] at hb; omega)))
local macro_rules | `(tactic| walk_at "tidy") => `(tactic| (try simp only [decide_eq_true_eq, decide_eq_false_iff_not, Bool.not_eq_true', Bool.not_eq_false'] at hb))
local macro_rules | `(tactic| walk_at "truth") => `(tactic| (first | refine tr_bl ?_ | refine tr_lst ?_ | refine tr_tup ?_ | refine tr_non ?_ | refine tr_int ?_))
local macro_rules | `(tactic| walk_at "ix") => `(tactic| (first
  | refine ix_tup (j := 0) rfl rfl ?_ | refine ix_tup (j := 1) rfl rfl ?_ | refine ix_tup (j := 2) rfl rfl ?_
  | refine ix_lst (j := 0) rfl rfl ?_ | refine ix_lst (j := 1) rfl rfl ?_ | refine ix_lst (j := 2) rfl rfl ?_
  | refine ix_own (k := 0) (j := 0) rfl rfl rfl ?_
  | refine ix_own (k := 0) (j := 1) rfl rfl rfl ?_
  | refine ix_own (k := 0) (j := 2) rfl rfl rfl ?_
  | refine ix_own (k := 1) (j := 0) rfl rfl rfl ?_
  | refine ix_own (k := 1) (j := 1) rfl rfl rfl ?_
  | refine ix_own (k := 1) (j := 2) rfl rfl rfl ?_
  | refine ix_own (k := 2) (j := 0) rfl rfl rfl ?_
  | refine ix_own (k := 2) (j := 1) rfl rfl rfl ?_
  | refine ix_own (k := 2) (j := 2) rfl rfl rfl ?_
  | refine ix_own (k := 3) (j := 0) rfl rfl rfl ?_
  | refine ix_own (k := 3) (j := 1) rfl rfl rfl ?_
  | refine ix_own (k := 3) (j := 2) rfl rfl rfl ?_
  | refine ix_own (k := 4) (j := 0) rfl rfl rfl ?_
  | refine ix_own (k := 4) (j := 1) rfl rfl rfl ?_
  | refine ix_own (k := 4) (j := 2) rfl rfl rfl ?_
  | refine ix_own (k := 5) (j := 0) rfl rfl rfl ?_
  | refine ix_own (k := 5) (j := 1) rfl rfl rfl ?_
  | refine ix_own (k := 5) (j := 2) rfl rfl rfl ?_
  | refine ix_own (k := 6) (j := 0) rfl rfl rfl ?_
  | refine ix_own (k := 6) (j := 1) rfl rfl rfl ?_
  | refine ix_own (k := 6) (j := 2) rfl rfl rfl ?_
  | refine ix_own (k := 7) (j := 0) rfl rfl rfl ?_
  | refine ix_own (k := 7) (j := 1) rfl rfl rfl ?_
  | refine ix_own (k := 7) (j := 2) rfl rfl rfl ?_
  | refine ix_own (k := 8) (j := 0) rfl rfl rfl ?_
  | refine ix_own (k := 8) (j := 1) rfl rfl rfl ?_
  | refine ix_own (k := 8) (j := 2) rfl rfl rfl ?_
  | refine ix_own (k := 9) (j := 0) rfl rfl rfl ?_
  | refine ix_own (k := 9) (j := 1) rfl rfl rfl ?_
  | refine ix_own (k := 9) (j := 2) rfl rfl rfl ?_
  | refine ix_own (k := 10) (j := 0) rfl rfl rfl ?_
  | refine ix_own (k := 10) (j := 1) rfl rfl rfl ?_
  | refine ix_own (k := 10) (j := 2) rfl rfl rfl ?_
  | refine ix_own (k := 11) (j := 0) rfl rfl rfl ?_
  | refine ix_own (k := 11) (j := 1) rfl rfl rfl ?_
  | refine ix_own (k := 11) (j := 2) rfl rfl rfl ?_
  | refine ix_own (k := 12) (j := 0) rfl rfl rfl ?_
  | refine ix_own (k := 12) (j := 1) rfl rfl rfl ?_
  | refine ix_own (k := 12) (j := 2) rfl rfl rfl ?_
  | refine ix_own (k := 13) (j := 0) rfl rfl rfl ?_
  | refine ix_own (k := 13) (j := 1) rfl rfl rfl ?_
  | refine ix_own (k := 13) (j := 2) rfl rfl rfl ?_))
local macro_rules | `(tactic| walk_at "seti") => `(tactic| (first
  | refine ⟨0, 0, _, _, _, rfl, rfl, rfl, rfl, of_decide_eq_true rfl, ?_⟩
  | refine ⟨0, 1, _, _, _, rfl, rfl, rfl, rfl, of_decide_eq_true rfl, ?_⟩
  | refine ⟨0, 2, _, _, _, rfl, rfl, rfl, rfl, of_decide_eq_true rfl, ?_⟩
  | refine ⟨1, 0, _, _, _, rfl, rfl, rfl, rfl, of_decide_eq_true rfl, ?_⟩
  | refine ⟨1, 1, _, _, _, rfl, rfl, rfl, rfl, of_decide_eq_true rfl, ?_⟩
  | refine ⟨1, 2, _, _, _, rfl, rfl, rfl, rfl, of_decide_eq_true rfl, ?_⟩
  | refine ⟨2, 0, _, _, _, rfl, rfl, rfl, rfl, of_decide_eq_true rfl, ?_⟩
  | refine ⟨2, 1, _, _, _, rfl, rfl, rfl, rfl, of_decide_eq_true rfl, ?_⟩
  | refine ⟨2, 2, _, _, _, rfl, rfl, rfl, rfl, of_decide_eq_true rfl, ?_⟩
  | refine ⟨3, 0, _, _, _, rfl, rfl, rfl, rfl, of_decide_eq_true rfl, ?_⟩
  | refine ⟨3, 1, _, _, _, rfl, rfl, rfl, rfl, of_decide_eq_true rfl, ?_⟩
  | refine ⟨3, 2, _, _, _, rfl, rfl, rfl, rfl, of_decide_eq_true rfl, ?_⟩
  | refine ⟨4, 0, _, _, _, rfl, rfl, rfl, rfl, of_decide_eq_true rfl, ?_⟩
  | refine ⟨4, 1, _, _, _, rfl, rfl, rfl, rfl, of_decide_eq_true rfl, ?_⟩
  | refine ⟨4, 2, _, _, _, rfl, rfl, rfl, rfl, of_decide_eq_true rfl, ?_⟩
  | refine ⟨5, 0, _, _, _, rfl, rfl, rfl, rfl, of_decide_eq_true rfl, ?_⟩
  | refine ⟨5, 1, _, _, _, rfl, rfl, rfl, rfl, of_decide_eq_true rfl, ?_⟩
  | refine ⟨5, 2, _, _, _, rfl, rfl, rfl, rfl, of_decide_eq_true rfl, ?_⟩
  | refine ⟨6, 0, _, _, _, rfl, rfl, rfl, rfl, of_decide_eq_true rfl, ?_⟩
  | refine ⟨6, 1, _, _, _, rfl, rfl, rfl, rfl, of_decide_eq_true rfl, ?_⟩
  | refine ⟨6, 2, _, _, _, rfl, rfl, rfl, rfl, of_decide_eq_true rfl, ?_⟩
  | refine ⟨7, 0, _, _, _, rfl, rfl, rfl, rfl, of_decide_eq_true rfl, ?_⟩
  | refine ⟨7, 1, _, _, _, rfl, rfl, rfl, rfl, of_decide_eq_true rfl, ?_⟩
  | refine ⟨7, 2, _, _, _, rfl, rfl, rfl, rfl, of_decide_eq_true rfl, ?_⟩
  | refine ⟨8, 0, _, _, _, rfl, rfl, rfl, rfl, of_decide_eq_true rfl, ?_⟩
  | refine ⟨8, 1, _, _, _, rfl, rfl, rfl, rfl, of_decide_eq_true rfl, ?_⟩
  | refine ⟨8, 2, _, _, _, rfl, rfl, rfl, rfl, of_decide_eq_true rfl, ?_⟩
  | refine ⟨9, 0, _, _, _, rfl, rfl, rfl, rfl, of_decide_eq_true rfl, ?_⟩
  | refine ⟨9, 1, _, _, _, rfl, rfl, rfl, rfl, of_decide_eq_true rfl, ?_⟩
  | refine ⟨9, 2, _, _, _, rfl, rfl, rfl, rfl, of_decide_eq_true rfl, ?_⟩
  | refine ⟨10, 0, _, _, _, rfl, rfl, rfl, rfl, of_decide_eq_true rfl, ?_⟩
  | refine ⟨10, 1, _, _, _, rfl, rfl, rfl, rfl, of_decide_eq_true rfl, ?_⟩
  | refine ⟨10, 2, _, _, _, rfl, rfl, rfl, rfl, of_decide_eq_true rfl, ?_⟩
  | refine ⟨11, 0, _, _, _, rfl, rfl, rfl, rfl, of_decide_eq_true rfl, ?_⟩
  | refine ⟨11, 1, _, _, _, rfl, rfl, rfl, rfl, of_decide_eq_true rfl, ?_⟩
  | refine ⟨11, 2, _, _, _, rfl, rfl, rfl, rfl, of_decide_eq_true rfl, ?_⟩
  | refine ⟨12, 0, _, _, _, rfl, rfl, rfl, rfl, of_decide_eq_true rfl, ?_⟩
  | refine ⟨12, 1, _, _, _, rfl, rfl, rfl, rfl, of_decide_eq_true rfl, ?_⟩
  | refine ⟨12, 2, _, _, _, rfl, rfl, rfl, rfl, of_decide_eq_true rfl, ?_⟩
  | refine ⟨13, 0, _, _, _, rfl, rfl, rfl, rfl, of_decide_eq_true rfl, ?_⟩
  | refine ⟨13, 1, _, _, _, rfl, rfl, rfl, rfl, of_decide_eq_true rfl, ?_⟩
  | refine ⟨13, 2, _, _, _, rfl, rfl, rfl, rfl, of_decide_eq_true rfl, ?_⟩))
local macro_rules | `(tactic| walk_at "lst") => `(tactic| (first
  | refine cd_list (.inr (.inr ⟨0, _, rfl, rfl⟩)) ?_
  | refine cd_list (.inr (.inr ⟨1, _, rfl, rfl⟩)) ?_
  | refine cd_list (.inr (.inr ⟨2, _, rfl, rfl⟩)) ?_
  | refine cd_list (.inr (.inr ⟨3, _, rfl, rfl⟩)) ?_
  | refine cd_list (.inr (.inr ⟨4, _, rfl, rfl⟩)) ?_
  | refine cd_list (.inr (.inr ⟨5, _, rfl, rfl⟩)) ?_
  | refine cd_list (.inr (.inr ⟨6, _, rfl, rfl⟩)) ?_
  | refine cd_list (.inr (.inr ⟨7, _, rfl, rfl⟩)) ?_
  | refine cd_list (.inr (.inr ⟨8, _, rfl, rfl⟩)) ?_
  | refine cd_list (.inr (.inr ⟨9, _, rfl, rfl⟩)) ?_
  | refine cd_list (.inr (.inr ⟨10, _, rfl, rfl⟩)) ?_
  | refine cd_list (.inr (.inr ⟨11, _, rfl, rfl⟩)) ?_
  | refine cd_list (.inr (.inr ⟨12, _, rfl, rfl⟩)) ?_
  | refine cd_list (.inr (.inr ⟨13, _, rfl, rfl⟩)) ?_))
local macro_rules | `(tactic| walk_at "isi") => `(tactic| (first | refine cd_isi (k := true) rfl (by decide +kernel) ?_ | refine cd_isi (k := false) rfl (by decide +kernel) ?_))
local macro_rules | `(tactic| walk_at "size") => `(tactic| (first
  | exact (show 0 ≤ sizeLine by decide) | exact (show 1 ≤ sizeLine by decide) | exact (show 2 ≤ sizeLine by decide) | exact (show 3 ≤ sizeLine by decide) | exact (show 4 ≤ sizeLine by decide) | exact (show 5 ≤ sizeLine by decide) | exact (show 6 ≤ sizeLine by decide) | exact (of_decide_eq_true rfl) | exact (Nat.le_of_ble_eq_true rfl)))
section
variable {P : Program} {w : World} {K : PySem.W.Frag} {mg : Str → Option Value} {base : Heap}
def optW : Option Str → D
  | none => .non
  | some w => .str w
def S_some : DS := fun ds M Φ => ∃ (l l2 : Addr) (k : Nat) (xs ys : List D), ds = [.adr l, .lst xs, .lst ys] ∧ DealAt M k l l2 ∧ 0 < xs.length ∧ xs.length < 2 ^ 40 ∧ 0 < ys.length ∧ ys.length < 2 ^ 40 ∧ ∀ (v : D) (b : Bool) gs m, (b = true → v ∈ xs) → (b = false → v ∈ ys) → Good gs m → Φ (.tup [v, .bl b]) (put2 M k l l2 gs m)
def S_duL : DS := fun ds M Φ => ∃ zs : List (Str × Bool), ds = [.lst (zs.map fun z => .str z.1), .lst (zs.map fun z => .bl z.2)] ∧ zs.length ≤ 10 ∧ Φ (optW (firstW zs)) M
theorem first_at : ∀ zs : List (Str × Bool), (((zs.filter fun z => !z.2).map fun z => D.str z.1) ++ [D.non])[0]? = some (optW (firstW zs))
  | [] => rfl
  | (w, true) :: zs => by
    show (((zs.filter fun z => !z.2).map fun z => D.str z.1) ++ [D.non])[0]? = _
    rw [first_at zs]
    rfl
  | (w, false) :: zs => rfl
theorem filt_le (zs : List (Str × Bool)) : ((zs.filter fun z => !z.2).map fun z => D.str z.1).length ≤ zs.length := by
  rw [List.length_map]
  exact List.length_filter_le _ _
abbrev s_Lsome : Stmt := top 33
theorem sc_Lsome : FnScope ["_law_deal_here", "_law_right", "_law_bads"] ["_law_deal_here", "_law_right", "_law_bads"] (defScope s_Lsome) := ⟨rfl, rfl, rfl, by decide +kernel, rfl, by decide +kernel, by decide +kernel⟩
theorem ok_Lsome {f : Addr} {fd : FuncData} (F : FunD K "_law_some" "_law_some" (defArgs s_Lsome) (defBody s_Lsome) (defScope s_Lsome) [] [] f fd) (B : Bf mg) (hDraw : HasFn P w K mg base 1 "_law_draw" S_draw) (hPick : HasFn P w K mg base 2 "_law_pick" S_pick) : FnOk P w K mg base CX0 3 f fd ["_law_deal_here", "_law_right", "_law_bads"] (spOf K S_some) := by
  refine fn_data (k := 2) F sc_Lsome (fun ds M Φ h => ?_) (fun cdv A outer s H E ds M Φ hr h => ?_)
  · obtain ⟨l, l2, k, xs, ys, rfl, hD, hx1, hx2, hy1, hy2, q⟩ := h
    all_goals rfl
  · obtain ⟨l, l2, k, xs, ys, rfl, hD, hx1, hx2, hy1, hy2, q⟩ := h
    have hkl := hD.len
    refine ws_if ?_
    refine wt_cmp ?_ (nomark _)
    refine wcf hDraw (hr.mono (by decide)) ?_
    refine wa_cons ?_
    refine wv 0 rfl ?_
    refine wa_cons ?_
    refine we_int ?_
    refine wa_nil ?_
    refine ⟨l, l2, k, _, rfl, hD, by decide, by decide, fun t1 gs1 m1 ht1 ht1x hg1 => ?_⟩
    refine we_int ?_
    refine od_gt ?_
    refine ⟨_, rfl, ?_⟩
    refine ⟨fun hb => ?_, fun hb => ?_⟩
    · first
      | (walk_at "dead")
      | (
        walk_at "tidy"
        refine ws_ret ?_
        refine we_tup ?_
        refine wa_cons ?_
        refine wcf hPick (hr.mono (by decide)) ?_
        refine wa_cons ?_
        refine wv 0 rfl ?_
        refine wa_cons ?_
        refine wv 1 rfl ?_
        refine wa_nil ?_
        refine ⟨l, l2, k, _, .inl rfl, deal_put hkl hg1, hx1, hx2, fun v gs2 m2 hv hg2 => ?_⟩
        rw [put2_put2]
        refine wa_cons ?_
        refine we_bl ?_
        refine wa_nil ?_
        refine ⟨(by walk_at "size"), ?_⟩
        first
        | exact q v true gs2 m2 (fun _ => hv) (fun h => by cases h) hg2
        | exact q v false gs2 m2 (fun h => by cases h) (fun _ => hv) hg2)
    · first
      | (walk_at "dead")
      | (
        walk_at "tidy"
        refine ws_nil ?_
        refine ws_ret ?_
        refine we_tup ?_
        refine wa_cons ?_
        refine wcf hPick (hr.mono (by decide)) ?_
        refine wa_cons ?_
        refine wv 0 rfl ?_
        refine wa_cons ?_
        refine wv 2 rfl ?_
        refine wa_nil ?_
        refine ⟨l, l2, k, _, .inl rfl, deal_put hkl hg1, hy1, hy2, fun v gs2 m2 hv hg2 => ?_⟩
        rw [put2_put2]
        refine wa_cons ?_
        refine we_bl ?_
        refine wa_nil ?_
        refine ⟨(by walk_at "size"), ?_⟩
        first
        | exact q v true gs2 m2 (fun _ => hv) (fun h => by cases h) hg2
        | exact q v false gs2 m2 (fun h => by cases h) (fun _ => hv) hg2)
abbrev s_Ldue : Stmt := top 32
theorem sc_Ldue : FnScope ["_law_words", "_law_goods", "_law_word_here", "_law_is_good"] ["_law_words", "_law_goods"] (defScope s_Ldue) := ⟨rfl, rfl, rfl, by decide +kernel, rfl, by decide +kernel, by decide +kernel⟩
theorem ok_Ldue {f : Addr} {fd : FuncData} (F : FunD K "_law_due" "_law_due" (defArgs s_Ldue) (defBody s_Ldue) (defScope s_Ldue) [] [] f fd) (B : Bf mg) : FnOk P w K mg base CX0 2 f fd ["_law_words", "_law_goods"] (spOf K S_duL) := by
  refine fn_data (k := 1) F sc_Ldue (fun ds M Φ h => ?_) (fun cdv A outer s H E ds M Φ hr h => ?_)
  · obtain ⟨zs, rfl, hl, q⟩ := h
    all_goals rfl
  · obtain ⟨zs, rfl, hl, q⟩ := h
    refine ws_ret ?_
    refine we_ix ?_ (fun _ _ => rfl)
    refine we_bin ?_
    refine we_frz ?_
    refine we_mapZ (own := [("_law_word_here", 2), ("_law_is_good", 3)]) sc_Ldue.nd (tg_tup (js := [2, 3]) (by decide)) ?_ (blkOk_by (N := ["_law_words", "_law_goods", "_law_word_here", "_law_is_good"]) (sc := defScope s_Ldue) (by decide +kernel)) (fun _ _ _ _ _ => pg_tup rfl (pgs_cons (pg_name (i := 2) sc_Ldue.nd rfl (Or.inl rfl)) (pgs_cons (pg_name (i := 3) sc_Ldue.nd rfl (Or.inl rfl)) pgs_nil))) B.zip
    refine wa_cons ?_
    refine wv 0 rfl ?_
    refine wa_cons ?_
    refine wv 1 rfl ?_
    refine wa_nil ?_
    refine ⟨_, zs, fun z => .str z.1, fun z => .bl z.2, fun z => !z.2, fun z => .str z.1, rfl, ⟨(by have h5 : sizeLine = 2 ^ 24 := rfl; omega), fun _ _ => ⟨_, rfl, rfl⟩, fun a9 ha9 l9 out s H C9 cl fp => ?_, fun a9 ha9 hp9 l9 out s H C9 cl fp => ?_⟩, fun l9 => ⟨l9, _, _, rfl, rfl, ?_⟩⟩
    · refine wts_one ?_
      refine wt_not ?_
      refine wt_val ?_ (by intro _; rfl)
      refine wv 3 rfl ?_
      refine tr_bl ?_
      exact ⟨rfl, rfl⟩
    · skip
      refine wv 2 rfl ?_
      exact ⟨rfl, rfl⟩
    refine we_lst ?_
    refine wa_cons ?_
    refine we_non ?_
    refine wa_nil ?_
    refine ⟨(by walk_at "size"), ?_⟩
    refine od_catL (.inl rfl) (.inl rfl) (by have h5 : sizeLine = 2 ^ 24 := rfl; have := filt_le zs; rw [List.length_cons, List.length_nil]; omega) ?_
    refine we_int ?_
    refine ix_lst (j := 0) rfl (first_at zs) ?_
    exact q
end
end Sl57
set_option Elab.async false
set_option linter.all false
set_option maxRecDepth 100000
set_option maxHeartbeats 4000000
namespace Sl57
open PySem PySem.Spec PyProof.Rows L2 Dt
set_option hygiene false
local macro_rules | `(tactic| walk_at "op") => `(tactic| (first
  | refine od_add ?_ | refine od_sub ?_ | refine od_lt ?_ | refine od_le ?_ | refine od_gt ?_ | refine od_ge ?_ | refine od_eq ?_ | refine od_ne ?_ | refine od_is ?_ | refine od_isn ?_
  | refine od_eqS ?_ | refine od_neS ?_ | refine od_eqB ?_ | refine od_neB ?_))
local macro_rules | `(tactic| walk_at "dead") => `(tactic| (first
  | (cases hb; done)
  | (exact absurd (show false = true from hb) (by decide))
  | (exact absurd (show true = false from hb) (by decide))
  | (exact absurd hb (by decide))
  | (exfalso; simp only [decide_eq_true_eq, decide_eq_false_iff_not, Bool.not_eq_true', Bool.not_eq_false'] at hb; omega)))
local macro_rules | `(tactic| walk_at "tidy") => `(tactic| (try simp only [decide_eq_true_eq, decide_eq_false_iff_not, Bool.not_eq_true', Bool.not_eq_false'] at hb))
local macro_rules | `(tactic| walk_at "truth") => `(tactic| (first | refine tr_bl ?_ | refine tr_lst ?_ | refine tr_tup ?_ | refine tr_non ?_ | refine tr_int ?_))
local macro_rules | `(tactic| walk_at "ix") => `(tactic| (first
  | refine ix_tup (j := 0) rfl rfl ?_ | refine ix_tup (j := 1) rfl rfl ?_ | refine ix_tup (j := 2) rfl rfl ?_
  | refine ix_lst (j := 0) rfl rfl ?_ | refine ix_lst (j := 1) rfl rfl ?_ | refine ix_lst (j := 2) rfl rfl ?_
  | refine ix_own (k := 0) (j := 0) rfl rfl rfl ?_
  | refine ix_own (k := 0) (j := 1) rfl rfl rfl ?_
  | refine ix_own (k := 0) (j := 2) rfl rfl rfl ?_
  | refine ix_own (k := 1) (j := 0) rfl rfl rfl ?_
  | refine ix_own (k := 1) (j := 1) rfl rfl rfl ?_
  | refine ix_own (k := 1) (j := 2) rfl rfl rfl ?_
  | refine ix_own (k := 2) (j := 0) rfl rfl rfl ?_
  | refine ix_own (k := 2) (j := 1) rfl rfl rfl ?_
  | refine ix_own (k := 2) (j := 2) rfl rfl rfl ?_
  | refine ix_own (k := 3) (j := 0) rfl rfl rfl ?_
  | refine ix_own (k := 3) (j := 1) rfl rfl rfl ?_
  | refine ix_own (k := 3) (j := 2) rfl rfl rfl ?_
  | refine ix_own (k := 4) (j := 0) rfl rfl rfl ?_
  | refine ix_own (k := 4) (j := 1) rfl rfl rfl ?_
  | refine ix_own (k := 4) (j := 2) rfl rfl rfl ?_
  | refine ix_own (k := 5) (j := 0) rfl rfl rfl ?_
  | refine ix_own (k := 5) (j := 1) rfl rfl rfl ?_
  | refine ix_own (k := 5) (j := 2) rfl rfl rfl ?_
  | refine ix_own (k := 6) (j := 0) rfl rfl rfl ?_
  | refine ix_own (k := 6) (j := 1) rfl rfl rfl ?_
  | refine ix_own (k := 6) (j := 2) rfl rfl rfl ?_
  | refine ix_own (k := 7) (j := 0) rfl rfl rfl ?_
  | refine ix_own (k := 7) (j := 1) rfl rfl rfl ?_
  | refine ix_own (k := 7) (j := 2) rfl rfl rfl ?_
  | refine ix_own (k := 8) (j := 0) rfl rfl rfl ?_
  | refine ix_own (k := 8) (j := 1) rfl rfl rfl ?_
  | refine ix_own (k := 8) (j := 2) rfl rfl rfl ?_
  | refine ix_own (k := 9) (j := 0) rfl rfl rfl ?_
  | refine ix_own (k := 9) (j := 1) rfl rfl rfl ?_
  | refine ix_own (k := 9) (j := 2) rfl rfl rfl ?_
  | refine ix_own (k := 10) (j := 0) rfl rfl rfl ?_
  | refine ix_own (k := 10) (j := 1) rfl rfl rfl ?_
  | refine ix_own (k := 10) (j := 2) rfl rfl rfl ?_
  | refine ix_own (k := 11) (j := 0) rfl rfl rfl ?_
  | refine ix_own (k := 11) (j := 1) rfl rfl rfl ?_
  | refine ix_own (k := 11) (j := 2) rfl rfl rfl ?_
  | refine ix_own (k := 12) (j := 0) rfl rfl rfl ?_
  | refine ix_own (k := 12) (j := 1) rfl rfl rfl ?_
  | refine ix_own (k := 12) (j := 2) rfl rfl rfl ?_
  | refine ix_own (k := 13) (j := 0) rfl rfl rfl ?_
  | refine ix_own (k := 13) (j := 1) rfl rfl rfl ?_
  | refine ix_own (k := 13) (j := 2) rfl rfl rfl ?_))
local macro_rules | `(tactic| walk_at "seti") => `(tactic| (first
  | refine ⟨0, 0, _, _, _, rfl, rfl, rfl, rfl, of_decide_eq_true rfl, ?_⟩
  | refine ⟨0, 1, _, _, _, rfl, rfl, rfl, rfl, of_decide_eq_true rfl, ?_⟩
  | refine ⟨0, 2, _, _, _, rfl, rfl, rfl, rfl, of_decide_eq_true rfl, ?_⟩
  | refine ⟨1, 0, _, _, _, rfl, rfl, rfl, rfl, of_decide_eq_true rfl, ?_⟩
  | refine ⟨1, 1, _, _, _, rfl, rfl, rfl, rfl, of_decide_eq_true rfl, ?_⟩
  | refine ⟨1, 2, _, _, _, rfl, rfl, rfl, rfl, of_decide_eq_true rfl, ?_⟩
  | refine ⟨2, 0, _, _, _, rfl, rfl, rfl, rfl, of_decide_eq_true rfl, ?_⟩
  | refine ⟨2, 1, _, _, _, rfl, rfl, rfl, rfl, of_decide_eq_true rfl, ?_⟩
  | refine ⟨2, 2, _, _, _, rfl, rfl, rfl, rfl, of_decide_eq_true rfl, ?_⟩
  | refine ⟨3, 0, _, _, _, rfl, rfl, rfl, rfl, of_decide_eq_true rfl, ?_⟩
  | refine ⟨3, 1, _, _, _, rfl, rfl, rfl, rfl, of_decide_eq_true rfl, ?_⟩
  | refine ⟨3, 2, _, _, _, rfl, rfl, rfl, rfl, of_decide_eq_true rfl, ?_⟩
  | refine ⟨4, 0, _, _, _, rfl, rfl, rfl, rfl, of_decide_eq_true rfl, ?_⟩
  | refine ⟨4, 1, _, _, _, rfl, rfl, rfl, rfl, of_decide_eq_true rfl, ?_⟩
  | refine ⟨4, 2, _, _, _, rfl, rfl, rfl, rfl, of_decide_eq_true rfl, ?_⟩
  | refine ⟨5, 0, _, _, _, rfl, rfl, rfl, rfl, of_decide_eq_true rfl, ?_⟩
  | refine ⟨5, 1, _, _, _, rfl, rfl, rfl, rfl, of_decide_eq_true rfl, ?_⟩
  | refine ⟨5, 2, _, _, _, rfl, rfl, rfl, rfl, of_decide_eq_true rfl, ?_⟩
  | refine ⟨6, 0, _, _, _, rfl, rfl, rfl, rfl, of_decide_eq_true rfl, ?_⟩
  | refine ⟨6, 1, _, _, _, rfl, rfl, rfl, rfl, of_decide_eq_true rfl, ?_⟩
  | refine ⟨6, 2, _, _, _, rfl, rfl, rfl, rfl, of_decide_eq_true rfl, ?_⟩
  | refine ⟨7, 0, _, _, _, rfl, rfl, rfl, rfl, of_decide_eq_true rfl, ?_⟩
  | refine ⟨7, 1, _, _, _, rfl, rfl, rfl, rfl, of_decide_eq_true rfl, ?_⟩
  | refine ⟨7, 2, _, _, _, rfl, rfl, rfl, rfl, of_decide_eq_true rfl, ?_⟩
  | refine ⟨8, 0, _, _, _, rfl, rfl, rfl, rfl, of_decide_eq_true rfl, ?_⟩
  | refine ⟨8, 1, _, _, _, rfl, rfl, rfl, rfl, of_decide_eq_true rfl, ?_⟩
  | refine ⟨8, 2, _, _, _, rfl, rfl, rfl, rfl, of_decide_eq_true rfl, ?_⟩
  | refine ⟨9, 0, _, _, _, rfl, rfl, rfl, rfl, of_decide_eq_true rfl, ?_⟩
  | refine ⟨9, 1, _, _, _, rfl, rfl, rfl, rfl, of_decide_eq_true rfl, ?_⟩
  | refine ⟨9, 2, _, _, _, rfl, rfl, rfl, rfl, of_decide_eq_true rfl, ?_⟩
  | refine ⟨10, 0, _, _, _, rfl, rfl, rfl, rfl, of_decide_eq_true rfl, ?_⟩
  | refine ⟨10, 1, _, _, _, rfl, rfl, rfl, rfl, of_decide_eq_true rfl, ?_⟩
  | refine ⟨10, 2, _, _, _, rfl, rfl, rfl, rfl, of_decide_eq_true rfl, ?_⟩
  | refine ⟨11, 0, _, _, _, rfl, rfl, rfl, rfl, of_decide_eq_true rfl, ?_⟩
  | refine ⟨11, 1, _, _, _, rfl, rfl, rfl, rfl, of_decide_eq_true rfl, ?_⟩
  | refine ⟨11, 2, _, _, _, rfl, rfl, rfl, rfl, of_decide_eq_true rfl, ?_⟩
  | refine ⟨12, 0, _, _, _, rfl, rfl, rfl, rfl, of_decide_eq_true rfl, ?_⟩
  | refine ⟨12, 1, _, _, _, rfl, rfl, rfl, rfl, of_decide_eq_true rfl, ?_⟩
  | refine ⟨12, 2, _, _, _, rfl, rfl, rfl, rfl, of_decide_eq_true rfl, ?_⟩
  | refine ⟨13, 0, _, _, _, rfl, rfl, rfl, rfl, of_decide_eq_true rfl, ?_⟩
  | refine ⟨13, 1, _, _, _, rfl, rfl, rfl, rfl, of_decide_eq_true rfl, ?_⟩
  | refine ⟨13, 2, _, _, _, rfl, rfl, rfl, rfl, of_decide_eq_true rfl, ?_⟩))
local macro_rules | `(tactic| walk_at "lst") => `(tactic| (first
  | refine cd_list (.inr (.inr ⟨0, _, rfl, rfl⟩)) ?_
  | refine cd_list (.inr (.inr ⟨1, _, rfl, rfl⟩)) ?_
  | refine cd_list (.inr (.inr ⟨2, _, rfl, rfl⟩)) ?_
  | refine cd_list (.inr (.inr ⟨3, _, rfl, rfl⟩)) ?_
  | refine cd_list (.inr (.inr ⟨4, _, rfl, rfl⟩)) ?_
  | refine cd_list (.inr (.inr ⟨5, _, rfl, rfl⟩)) ?_
  | refine cd_list (.inr (.inr ⟨6, _, rfl, rfl⟩)) ?_
  | refine cd_list (.inr (.inr ⟨7, _, rfl, rfl⟩)) ?_
  | refine cd_list (.inr (.inr ⟨8, _, rfl, rfl⟩)) ?_
  | refine cd_list (.inr (.inr ⟨9, _, rfl, rfl⟩)) ?_
  | refine cd_list (.inr (.inr ⟨10, _, rfl, rfl⟩)) ?_
  | refine cd_list (.inr (.inr ⟨11, _, rfl, rfl⟩)) ?_
  | refine cd_list (.inr (.inr ⟨12, _, rfl, rfl⟩)) ?_
  | refine cd_list (.inr (.inr ⟨13, _, rfl, rfl⟩)) ?_))
local macro_rules | `(tactic| walk_at "isi") => `(tactic| (first | refine cd_isi (k := true) rfl (by decide +kernel) ?_ | refine cd_isi (k := false) rfl (by decide +kernel) ?_))
local macro_rules | `(tactic| walk_at "size") => `(tactic| (first
  | exact (show 0 ≤ sizeLine by decide) | exact (show 1 ≤ sizeLine by decide) | exact (show 2 ≤ sizeLine by decide) | exact (show 3 ≤ sizeLine by decide) | exact (show 4 ≤ sizeLine by decide) | exact (show 5 ≤ sizeLine by decide) | exact (show 6 ≤ sizeLine by decide) | exact (of_decide_eq_true rfl) | exact (Nat.le_of_ble_eq_true rfl)))
section
variable {P : Program} {w : World} {K : PySem.W.Frag} {mg : Str → Option Value} {base : Heap}
def BvW : VP → VP := fun Φ _ M' => Φ .non M'
def BeW (CI : Addr) : VP → XP := fun Φ C ds M' => ∃ w : Str, C = CI ∧ ds = ([("word", .str w)] : List (Str × D)) ∧ Φ (.str w) M'
structure ErW (K : PySem.W.Frag) (mg : Str → Option Value) (CI SE TE : Addr) : Prop where
  xc : XcC K CI "word"
  exm : PySem.W.exmOne K (.ref CI) (.ref CI) = some true
  mI : mg "InvalidRow" = some (.ref CI)
  mS : mg "SightError" = some (.ref SE)
  mT : mg "InvalidPlan" = some (.ref TE)
  kS : PySem.W.kitOne K (.ref CI) (.ref SE) = some true
  kT : PySem.W.kitOne K (.ref CI) (.ref TE) = some false
abbrev dlT (tb l l2 : Addr) (gs : List Int) (m : Int) : Mem := [(l, .lst [.adr l2, .int m]), (l2, .lst (gs.map D.int)), (tb, .tab (lamQ "law") emp)]
theorem dlT_at {tb l l2 : Addr} {gs : List Int} {m : Int} (g : Good gs m) : DealAt (dlT tb l l2 gs m) 0 l l2 := ⟨gs, m, g, rfl, rfl⟩
theorem dlT_put {tb l l2 : Addr} {gs gs' : List Int} {m m' : Int} : put2 (dlT tb l l2 gs m) 0 l l2 gs' m' = dlT tb l l2 gs' m' := rfl
theorem dlT_tab {tb l l2 : Addr} {gs : List Int} {m : Int} : ∀ (b : Addr) (q' : Str) (R' : Hp), (b, MO.tab q' R') ∈ dlT tb l l2 gs m → b = tb := fun b q' R' h => by
  rcases List.mem_cons.mp h with h | h
  · cases h
  · rcases List.mem_cons.mp h with h | h
    · cases h
    · rw [List.mem_singleton] at h
      cases h
      rfl
def S_law (tb : Addr) : DS := fun ds M Φ => ∃ ns : List Int, ds = [.lst (ns.map .int)] ∧ ns.length ≤ 63 ∧ M = [(tb, .tab (lamQ "law") emp)] ∧ ∀ M', Φ (.bl true) M'
/-- what is no row, a row that is no sequence -/
structure NoR (K : PySem.W.Frag) (c : Cs) (R : Addr) : Prop where
  s : PySem.W.kitOne K (.type "str") (.ref R) = some false
  n : PySem.W.kitOne K (.type "NoneType") (.ref R) = some false
  l : PySem.W.kitOne K (.type "list") (.ref R) = some false
  gl : PySem.W.kitOne K (.ref c.go) (.type "list") = some false
  gt : PySem.W.kitOne K (.ref c.go) (.type "tuple") = some false
  gg : PySem.W.kitOne K (.ref c.go) (.ref c.go) = some true
  sg : PySem.W.kitOne K (.ref c.stop) (.ref c.go) = some false
  ig : PySem.W.kitOne K (.ref c.ifr) (.ref c.go) = some false
def isOb : D → Bool
  | .obj _ _ => true
  | _ => false
section
variable {K : PySem.W.Frag} {c : Cs} {R : Addr} {f1 f2 f3 f4 : List (Str × D)}
/-- the things of which the law's sequences are made -/
inductive Thg (c : Cs) (f1 f2 f3 : List (Str × D)) : D → Prop
  | g : Thg c f1 f2 f3 (.obj c.go f1)
  | s : Thg c f1 f2 f3 (.obj c.stop f2)
  | i : Thg c f1 f2 f3 (.obj c.ifr f3)
  | n : Thg c f1 f2 f3 .non
  | t (x : Str) : Thg c f1 f2 f3 (.str x)
  | l (xs : List D) : Thg c f1 f2 f3 (.lst xs)
theorem Thg.q (hI : RwI K c R) (hNo : NoR K c R) {y : D} (h : Thg c f1 f2 f3 y) : RoomQ K R y (isOb y) := by
  cases h with
  | g => exact .inr ⟨_, _, rfl, hI.go, hI.gr⟩
  | s => exact .inr ⟨_, _, rfl, hI.stop, hI.sr⟩
  | i => exact .inr ⟨_, _, rfl, hI.ifr, hI.ir⟩
  | n => exact .inl ⟨_, rfl, hNo.n⟩
  | t x => exact .inl ⟨_, rfl, hNo.s⟩
  | l xs => exact .inl ⟨_, rfl, hNo.l⟩
theorem are_of (hI : RwI K c R) (hNo : NoR K c R) {d : D} {xs : List D} {b : Bool} (hd : d = .lst xs ∨ d = .tup xs) (hl : xs.length ≤ 5) (h : ∀ y, y ∈ xs → Thg c f1 f2 f3 y) (hb : b = (xs.map isOb).all id) : AreQ K R d b :=
  .inr (.inl ⟨xs, isOb, hd, (by have h5 : sizeLine = 2 ^ 24 := rfl; omega), fun y hy => (h y hy).q hI hNo, hb⟩)
theorem are_no {d : D} {t : String} (h : tyD d = some t) (h2 : (t == "list" || t == "tuple") = false) : AreQ K R d false := .inl ⟨t, h, h2, rfl⟩
theorem are_go (hI : RwI K c R) (hNo : NoR K c R) : AreQ K R (.obj c.go f1) false := .inr (.inr ⟨_, _, rfl, hI.go, hNo.gl, hNo.gt, rfl⟩)
abbrev seqS (c : Cs) (f1 f2 f3 : List (Str × D)) : List D := [.lst [], .tup [], .lst [.obj c.go f1], .tup [.obj c.stop f2, .obj c.go f1], .lst [.obj c.go f1, .obj c.ifr f3]]
abbrev badS (c : Cs) (f1 f2 : List (Str × D)) : List D := [.non, .obj c.go f1, .str "go east 1", .lst [.non], .lst [.obj c.go f1, .str "stop goal"], .tup [.obj c.go f1, .lst [.obj c.stop f2]], .int 3, .lst [.lst []]]
theorem bad_q (hI : RwI K c R) (hNo : NoR K c R) {v : D} (h : v ∈ badS c f1 f2) : AreQ K R v false := by
  simp only [List.mem_cons, List.not_mem_nil, or_false] at h
  rcases h with rfl | rfl | rfl | rfl | rfl | rfl | rfl | rfl
  · exact are_no rfl (by decide)
  · exact are_go hI hNo
  · exact are_no rfl (by decide)
  · exact are_of (f1 := f1) (f2 := f2) (f3 := []) hI hNo (.inl rfl) (by decide) (fun y hy => by rw [List.mem_singleton] at hy; rw [hy]; exact .n) rfl
  · exact are_of (f1 := f1) (f2 := f2) (f3 := []) hI hNo (.inl rfl) (of_decide_eq_true rfl) (fun y hy => by
      simp only [List.mem_cons, List.not_mem_nil, or_false] at hy
      rcases hy with rfl | rfl
      · exact .g
      · exact .t _) rfl
  · exact are_of (f1 := f1) (f2 := f2) (f3 := []) hI hNo (.inr rfl) (of_decide_eq_true rfl) (fun y hy => by
      simp only [List.mem_cons, List.not_mem_nil, or_false] at hy
      rcases hy with rfl | rfl
      · exact .g
      · exact .l _) rfl
  · exact are_no rfl (by decide)
  · exact are_of (f1 := f1) (f2 := f2) (f3 := []) hI hNo (.inl rfl) (of_decide_eq_true rfl) (fun y hy => by rw [List.mem_singleton] at hy; rw [hy]; exact .l _) rfl
theorem rows_q (hI : RwI K c R) (hNo : NoR K c R) {v : D} {b : Bool} (h1 : b = true → v ∈ seqS c f1 f2 f3) (h2 : b = false → v ∈ badS c f1 f2) : AreQ K R v b := by
  cases b with
  | false => exact bad_q hI hNo (h2 rfl)
  | true =>
    have h := h1 rfl
    simp only [List.mem_cons, List.not_mem_nil, or_false] at h
    rcases h with rfl | rfl | rfl | rfl | rfl
    · exact are_of (f1 := f1) (f2 := f2) (f3 := f3) hI hNo (.inl rfl) (by decide) (fun y hy => by cases hy) rfl
    · exact are_of (f1 := f1) (f2 := f2) (f3 := f3) hI hNo (.inr rfl) (by decide) (fun y hy => by cases hy) rfl
    · exact are_of (f1 := f1) (f2 := f2) (f3 := f3) hI hNo (.inl rfl) (of_decide_eq_true rfl) (fun y hy => by rw [List.mem_singleton] at hy; rw [hy]; exact .g) rfl
    · exact are_of (f1 := f1) (f2 := f2) (f3 := f3) hI hNo (.inr rfl) (of_decide_eq_true rfl) (fun y hy => by
        simp only [List.mem_cons, List.not_mem_nil, or_false] at hy
        rcases hy with rfl | rfl
        · exact .s
        · exact .g) rfl
    · exact are_of (f1 := f1) (f2 := f2) (f3 := f3) hI hNo (.inl rfl) (of_decide_eq_true rfl) (fun y hy => by
        simp only [List.mem_cons, List.not_mem_nil, or_false] at hy
        rcases hy with rfl | rfl
        · exact .g
        · exact .i) rfl
theorem loops_q (hI : RwI K c R) (hNo : NoR K c R) {v : D} {b : Bool} (h1 : b = true → v ∈ ([.lst [.obj c.go f1], .lst [.obj c.go f1, .obj c.ifr f3]] : List D)) (h2 : b = false → v ∈ badS c f1 f2 ++ [.lst [], .tup [], .lst [.obj c.stop f2, .obj c.go f1], .lst [.obj c.ifr f4]]) : LoopQ K c R v b := by
  cases b with
  | false =>
    rcases List.mem_append.mp (h2 rfl) with h | h
    · exact .inl ⟨bad_q hI hNo h, rfl⟩
    · simp only [List.mem_cons, List.not_mem_nil, or_false] at h
      rcases h with rfl | rfl | rfl | rfl
      · exact .inr (.inl ⟨are_of (f1 := f1) (f2 := f2) (f3 := f3) hI hNo (.inl rfl) (by decide) (fun y hy => by cases hy) rfl, .inl rfl, rfl⟩)
      · exact .inr (.inl ⟨are_of (f1 := f1) (f2 := f2) (f3 := f3) hI hNo (.inr rfl) (by decide) (fun y hy => by cases hy) rfl, .inr rfl, rfl⟩)
      · exact .inr (.inr ⟨c.stop, f2, _, are_of (f1 := f1) (f2 := f2) (f3 := f3) hI hNo (.inl rfl) (of_decide_eq_true rfl) (fun y hy => by
          simp only [List.mem_cons, List.not_mem_nil, or_false] at hy
          rcases hy with rfl | rfl
          · exact .s
          · exact .g) rfl, .inl rfl, hI.stop, hNo.sg⟩)
      · exact .inr (.inr ⟨c.ifr, f4, _, are_of (f1 := f1) (f2 := f2) (f3 := f4) hI hNo (.inl rfl) (of_decide_eq_true rfl) (fun y hy => by rw [List.mem_singleton] at hy; rw [hy]; exact .i) rfl, .inl rfl, hI.ifr, hNo.ig⟩)
  | true =>
    have h := h1 rfl
    simp only [List.mem_cons, List.not_mem_nil, or_false] at h
    rcases h with rfl | rfl
    · exact .inr (.inr ⟨c.go, f1, _, are_of (f1 := f1) (f2 := f2) (f3 := f3) hI hNo (.inl rfl) (of_decide_eq_true rfl) (fun y hy => by rw [List.mem_singleton] at hy; rw [hy]; exact .g) rfl, .inl rfl, hI.go, hNo.gg⟩)
    · exact .inr (.inr ⟨c.go, f1, _, are_of (f1 := f1) (f2 := f2) (f3 := f3) hI hNo (.inl rfl) (of_decide_eq_true rfl) (fun y hy => by
        simp only [List.mem_cons, List.not_mem_nil, or_false] at hy
        rcases hy with rfl | rfl
        · exact .g
        · exact .i) rfl, .inl rfl, hI.go, hNo.gg⟩)
end
theorem not_num {t : Str} (h : WdOk t) {m : Int} (h1 : PySem.intText? t = some m) (h2 : t ≠ isS m) : ¬ IsNum t := fun ⟨n, e⟩ => by
  have hb := h.num e
  rw [e, isS_int (by omega)] at h1
  cases h1
  exact h2 e
theorem ts_lit {x : Str} {b : Bool} (ws : List Str) (hx : x = spJ ws) (h : (!ws.isEmpty && ws.all (fun p => decide (32 ∉ TL.tl p)) && decide (x.length ≤ 1000) && (match ws with | [_, _, t] => wdB t | _ => true)) = true) (hb : b = tsB ws) : TsA (.str x) b := by
  subst hx
  rw [Bool.and_eq_true, Bool.and_eq_true, Bool.and_eq_true, decide_eq_true_eq, List.all_eq_true] at h
  obtain ⟨⟨⟨h1, h2⟩, h3⟩, h4⟩ := h
  refine .inr ⟨ws, rfl, fun e => by rw [e] at h1; exact absurd h1 (by decide), fun p hp => of_decide_eq_true (h2 p hp), h3, fun v o t e => ?_, hb⟩
  subst e
  exact wd_lit h4
theorem tests_q {v : D} {b : Bool} (h1 : b = true → v ∈ ([.str "x < 3", .str "y >= -12", .str "x >= 0"] : List D)) (h2 : b = false → v ∈ ([.str "x > 3", .str "x<3", .str "z < 1", .str "x < 03", .str "", D.non, .int 3, .str "x < -0"] : List D)) : TsA v b := by
  cases b with
  | false =>
    have h := h2 rfl
    simp only [List.mem_cons, List.not_mem_nil, or_false] at h
    rcases h with rfl | rfl | rfl | rfl | rfl | rfl | rfl | rfl
    · exact ts_lit ["x", ">", "3"] (by decide +kernel) (by decide +kernel) (tsB_o (by decide +kernel)).symm
    · exact ts_lit ["x<3"] (by decide +kernel) (by decide +kernel) (tsB_len (by decide)).symm
    · exact ts_lit ["z", "<", "1"] (by decide +kernel) (by decide +kernel) (tsB_v (by decide +kernel)).symm
    · exact ts_lit ["x", "<", "03"] (by decide +kernel) (by decide +kernel) (tsB_n (not_num (wd_lit (by decide +kernel)) (m := 3) (by decide +kernel) (by decide +kernel))).symm
    · exact ts_lit [""] (by decide +kernel) (by decide +kernel) (tsB_len (by decide)).symm
    · exact .inl ⟨rfl, ⟨_, rfl⟩, rfl⟩
    · exact .inl ⟨rfl, ⟨_, rfl⟩, rfl⟩
    · exact ts_lit ["x", "<", "-0"] (by decide +kernel) (by decide +kernel) (tsB_n (not_num (wd_lit (by decide +kernel)) (m := 0) (by decide +kernel) (by decide +kernel))).symm
  | true =>
    have h := h1 rfl
    simp only [List.mem_cons, List.not_mem_nil, or_false] at h
    rcases h with rfl | rfl | rfl
    · exact ts_lit ["x", "<", "3"] (by decide +kernel) (by decide +kernel) (tsB_yes (by decide +kernel) (by decide +kernel) ⟨3, by decide +kernel⟩).symm
    · exact ts_lit ["y", ">=", "-12"] (by decide +kernel) (by decide +kernel) (tsB_yes (by decide +kernel) (by decide +kernel) ⟨(-12), by decide +kernel⟩).symm
    · exact ts_lit ["x", ">=", "0"] (by decide +kernel) (by decide +kernel) (tsB_yes (by decide +kernel) (by decide +kernel) ⟨0, by decide +kernel⟩).symm
theorem ways_q {v : D} {b : Bool} (h1 : b = true → v ∈ ([.str "east", .str "west", .str "north", .str "south"] : List D)) (h2 : b = false → v ∈ ([.str "East", .str "", D.non, .int 1, .str "up", .lst [.str "east"], .str "east "] : List D)) : WayQ v b := by
  cases b with
  | false =>
    have h := h2 rfl
    simp only [List.mem_cons, List.not_mem_nil, or_false] at h
    rcases h with rfl | rfl | rfl | rfl | rfl | rfl | rfl
    all_goals first | exact .inl ⟨_, rfl, by decide +kernel⟩ | exact .inr ⟨rfl, ⟨_, rfl⟩, rfl⟩
  | true =>
    have h := h1 rfl
    simp only [List.mem_cons, List.not_mem_nil, or_false] at h
    rcases h with rfl | rfl | rfl | rfl
    all_goals exact .inl ⟨_, rfl, by decide +kernel⟩
theorem steps_q {v : D} {b : Bool} (h1 : b = true → v ∈ ([.int 1, .int 5, .int 9] : List D)) (h2 : b = false → v ∈ ([.int 0, .int 10, .int (-1), .bl true, .str "3", D.non, .int (10 ^ 20)] : List D)) : StepQ v b := by
  cases b with
  | false =>
    have h := h2 rfl
    simp only [List.mem_cons, List.not_mem_nil, or_false] at h
    rcases h with rfl | rfl | rfl | rfl | rfl | rfl | rfl
    all_goals first | exact .inl ⟨_, rfl, by decide⟩ | exact .inr ⟨rfl, ⟨_, rfl⟩, rfl⟩
  | true =>
    have h := h1 rfl
    simp only [List.mem_cons, List.not_mem_nil, or_false] at h
    rcases h with rfl | rfl | rfl
    all_goals exact .inl ⟨_, rfl, by decide⟩
theorem name_str {x : Str} {b : Bool} (h : x.length ≤ 1000) (hb : b = isName (.str x)) : NameQ (.str x) b := ⟨⟨_, rfl⟩, fun y hy => by cases hy; exact h, hb⟩
theorem marks_q {v : D} {b : Bool} (h1 : b = true → v ∈ ([.str "lamp", .str "a", .str "zzzzzz"] : List D)) (h2 : b = false → v ∈ ([.str "end", .str "Lamp", .str "", D.non, .str "sevenly", .lst [.str "lamp"], .int 7] : List D)) : NameQ v b := by
  cases b with
  | false =>
    have h := h2 rfl
    simp only [List.mem_cons, List.not_mem_nil, or_false] at h
    rcases h with rfl | rfl | rfl | rfl | rfl | rfl | rfl
    all_goals first | exact name_str (by decide +kernel) (by decide +kernel) | exact ⟨⟨_, rfl⟩, fun x h => (by cases h), rfl⟩
  | true =>
    have h := h1 rfl
    simp only [List.mem_cons, List.not_mem_nil, or_false] at h
    rcases h with rfl | rfl | rfl
    all_goals exact name_str (by decide +kernel) (by decide +kernel)
theorem go_q : WayQ (.str "north") true ∧ StepQ (.int 2) true := ⟨.inl ⟨_, rfl, by decide +kernel⟩, .inl ⟨_, rfl, by decide⟩⟩
theorem goal_q : NameQ (.str "goal") true := name_str (by decide +kernel) (by decide +kernel)
theorem x1_q : TsA (.str "x < 1") true := ts_lit ["x", "<", "1"] (by decide +kernel) (by decide +kernel) (tsB_yes (by decide +kernel) (by decide +kernel) ⟨1, by decide +kernel⟩).symm
abbrev s_Lword : Stmt := top 31
theorem sc_Lword : FnScope ["_law_make", "_law_found", "e"] ["_law_make"] (defScope s_Lword) := ⟨rfl, rfl, rfl, by decide +kernel, rfl, by decide +kernel, by decide +kernel⟩
theorem ok_Lword {X : Cx} {CI SE TE : Addr} (B : Bf X.mg) (hE : ErW X.K X.mg CI SE TE) (g : Addr) (q : Str) (cdv : Value) : LamX.GivesTo X ["_law_make", "_law_found", "e"] "_law_word" (defScope s_Lword) g cdv (defBody s_Lword) "_law_make" q (TTd X.K BvW (BeW CI)) := by
  rcases X with ⟨P, w, K, mg, base⟩
  have B : Bf mg := B
  have hE : ErW K mg CI SE TE := hE
  refine gives_of (by decide) (fun f s H M Φ hA => ?_)
  refine ws_set 1 sc_Lword.nd ?_
  refine we_non ?_
  refine ws_cons (w1_tryAs (i := 2) (x := "InvalidRow") (c := .ref CI) sc_Lword.nd rfl ⟨rfl, by decide, .inl hE.mI⟩ (fun pn xe po => ?_))
  refine wsz_x (Ξ := BeW CI Φ) ?_ ?_
  · refine wx_expr ((hA pn xe _ _ _ rfl).mono fun d9 M9 q9 => wx_nil ?_)
    have q9 : Φ .non M9 := q9
    show WS _ _ _ _ _
    refine ws_ret ?_
    refine wv 1 rfl ?_
    exact q9
  rintro C9 ds9 M9 ⟨w9, rfl, rfl, q9⟩
  refine ⟨hE.exm, fun ad dd oe pn2 hz hfl => ?_⟩
  refine ws_set 1 sc_Lword.nd ?_
  refine we_if ?_
  refine wt_bool ?_
  refine ww_and ?_
  refine wt_val ?_ (by intro _; rfl)
  refine wcB B.isi boot_isinstance ?_
  refine wa_cons ?_
  refine wv 2 rfl ?_
  refine wa_cons ?_
  refine wgl hE.mS ?_
  refine wa_nil ?_
  refine call_isExc hE.xc hz hfl cls_adr hE.kS ?_
  walk_at "truth"
  refine ⟨fun hb => ?_, fun hb => ?_⟩
  · walk_at "tidy"
    refine ww_and1 ?_
    refine wt_not ?_
    refine wt_val ?_ (by intro _; rfl)
    refine wcB B.isi boot_isinstance ?_
    refine wa_cons ?_
    refine wv 2 rfl ?_
    refine wa_cons ?_
    refine wgl hE.mT ?_
    refine wa_nil ?_
    refine call_isExc hE.xc hz hfl cls_adr hE.kT ?_
    walk_at "truth"
    refine ⟨fun hb => ?_, fun hb => ?_⟩
    · walk_at "tidy"
      refine we_attr ?_ (by rfl)
      refine wv 2 rfl ?_
      refine at_exc hE.xc.xf hE.xc.no hz hfl lk_here ?_
      refine ws_nil ?_
      show WS _ _ _ _ _
      refine ws_ret ?_
      refine wv 1 rfl ?_
      exact q9
    · walk_at "dead"
  · walk_at "dead"
abbrev s_law : Stmt := top 34
theorem sc_law : FnScope ["_law_script", "_law_deal_here", "_law_go", "_law_stop", "_law_seqs", "_law_bad", "_law_turn", "_law_ways", "_law_steps", "_law_odd", "_law_tests", "_law_marks", "_law_rows", "_law_others", "_law_loops", "_law_goods"] ["_law_script"] (defScope s_law) := ⟨rfl, rfl, rfl, by decide +kernel, rfl, by decide +kernel, by decide +kernel⟩
theorem ok_law {f : Addr} {fd : FuncData} (F : FunD K "law" "law" (defArgs s_law) (defBody s_law) (defScope s_law) [] [] f fd) (B : Bf mg) {c : Cs} {R CI cc tb : Addr} (hc : fd.code = .ref cc) (TB : LamX.TabB base mg cc tb) (hWord : ∀ X : Cx, X.K = K → X.mg = mg → HasLam X "_law_word" BvW (BeW CI)) (hI : RwI K c R) (hNo : NoR K c R) (hDeal : HasFn P w K mg base 1 "_law_deal" S_deal) (hSome : HasFn P w K mg base 3 "_law_some" S_some) (hDue : HasFn P w K mg base 2 "_law_due" S_duL) (hGo : HasMkX P w K mg base 3 c.go "Go" [] (S_goA c CI)) (hStop : HasMkX P w K mg base 3 c.stop "Stop" [] (S_stopA c CI)) (hIf : HasMkX P w K mg base 3 c.ifr "If" [] (S_blkA K R c.ifr "test" TsA CI)) (hIfD : HasMkX P w K mg base 3 c.ifr "If" [.tup []] (S_blkA K R c.ifr "test" TsA CI)) (hSee : HasMkX P w K mg base 3 c.see "See" [] (S_blkA K R c.see "mark" NameQ CI)) (hWhi : HasMkX P w K mg base 3 c.whi "While" [] (S_whiA K R c CI)) : FnOk P w K mg base CX0 13 f fd ["_law_script"] (spOf K (S_law tb)) := by
  refine fn_dataT (k := 12) F sc_law hc (fun ds M Φ h => ?_) (fun cdv A outer s H E ds M Φ hcd hr h => ?_)
  · obtain ⟨ns, rfl, hlen, rfl, qq⟩ := h
    all_goals rfl
  · obtain ⟨ns, rfl, hlen, rfl, qq⟩ := h
    skip
    refine ws_set 1 sc_law.nd ?_
    refine wcf hDeal (hr.mono (by decide)) ?_
    refine wa_cons ?_
    refine wv 0 rfl ?_
    refine wa_nil ?_
    refine ⟨ns, rfl, hlen, fun l l2 gs m hg => ?_⟩
    refine ws_par 2 3 sc_law.nd ?_
    refine wa_cons ?_
    refine we_x (wxm hGo (hr.mono (by decide)) ?_)
    refine wa_cons ?_
    refine we_str ?_
    refine wa_cons ?_
    refine we_int ?_
    refine wa_nil ?_
    intro l9
    refine ⟨l9, _, _, true, true, _, rfl, rfl, go_q.1, go_q.2, (fun w9 (hw9 : none = some w9) => nomatch hw9), fun _ f1 => ?_⟩
    refine ⟨rfl, f1, _, rfl, ?_⟩
    refine wa_cons ?_
    refine we_x (wxm hStop (hr.mono (by decide)) ?_)
    refine wa_cons ?_
    refine we_str ?_
    refine wa_nil ?_
    intro l9
    refine ⟨l9, _, true, _, rfl, rfl, goal_q, (fun w9 (hw9 : none = some w9) => nomatch hw9), fun _ f2 => ?_⟩
    refine ⟨rfl, f2, _, rfl, ?_⟩
    refine wa_nil ?_
    refine ⟨_, _, rfl, ?_⟩
    refine ws_wk (Γ' := [some (.lst (ns.map .int)), some (.adr l), some (.obj c.go f1), some (.obj c.stop f2), none, none, none, none, none, none, none, none, none, none, none, none]) (M' := dlT tb l l2 gs m) (by repeat (first | exact wkE | refine wkS ?_ | refine wkN ?_)) (List.Sublist.refl _) ?_
    refine ws_cons ?_
    refine w1_set (i := 4) (x := "_law_seqs") ?pza ?qza ?rza ?hza ?cza ?dza
    case pza => exact sc_law.nd
    case qza => rfl
    case rza => first | exact Or.inl rfl | exact Or.inr rfl
    case cza => rfl
    case dza => first | exact .inl rfl | exact .inr rfl
    refine we_lst ?_
    refine wa_cons ?_
    refine we_lst ?_
    refine wa_nil ?_
    refine ⟨(by walk_at "size"), ?_⟩
    refine wa_cons ?_
    refine we_tup ?_
    refine wa_nil ?_
    refine ⟨(by walk_at "size"), ?_⟩
    refine wa_cons ?_
    refine we_lst ?_
    refine wa_cons ?_
    refine wv 2 rfl ?_
    refine wa_nil ?_
    refine ⟨(by walk_at "size"), ?_⟩
    refine wa_cons ?_
    refine we_tup ?_
    refine wa_cons ?_
    refine wv 3 rfl ?_
    refine wa_cons ?_
    refine wv 2 rfl ?_
    refine wa_nil ?_
    refine ⟨(by walk_at "size"), ?_⟩
    refine wa_cons ?_
    refine we_lst ?_
    refine wa_cons ?_
    refine wv 2 rfl ?_
    refine wa_cons ?_
    refine we_x (wxm hIfD (hr.mono (by decide)) ?_)
    refine wa_cons ?_
    refine we_str ?_
    refine wa_cons ?_
    refine we_lst ?_
    refine wa_cons ?_
    refine wv 3 rfl ?_
    refine wa_nil ?_
    refine ⟨(by walk_at "size"), ?_⟩
    refine wa_nil ?_
    intro l9
    refine ⟨l9, _, _, _, true, true, true, _, rfl, rfl, x1_q, (are_of (f1 := f1) (f2 := f2) (f3 := []) hI hNo (.inl rfl) (of_decide_eq_true rfl) (fun y hy => by rw [List.mem_singleton] at hy; rw [hy]; exact .s) rfl), (are_of (f1 := f1) (f2 := f2) (f3 := []) hI hNo (.inr rfl) (by decide) (fun y hy => by cases hy) rfl), (fun w9 (hw9 : none = some w9) => nomatch hw9), fun _ f3 => ?_⟩
    refine ⟨rfl, f3, _, rfl, ?_⟩
    refine wa_nil ?_
    refine ⟨(by walk_at "size"), ?_⟩
    refine wa_nil ?_
    refine ⟨(by walk_at "size"), ?_⟩
    refine ws_wk (Γ' := [some (.lst (ns.map .int)), some (.adr l), some (.obj c.go f1), some (.obj c.stop f2), some (.lst (seqS c f1 f2 f3)), none, none, none, none, none, none, none, none, none, none, none]) (M' := dlT tb l l2 gs m) (by repeat (first | exact wkE | refine wkS ?_ | refine wkN ?_)) (List.Sublist.refl _) ?_
    refine ws_cons ?_
    refine w1_set (i := 5) (x := "_law_bad") ?pzb ?qzb ?rzb ?hzb ?czb ?dzb
    case pzb => exact sc_law.nd
    case qzb => rfl
    case rzb => first | exact Or.inl rfl | exact Or.inr rfl
    case czb => rfl
    case dzb => first | exact .inl rfl | exact .inr rfl
    refine we_lst ?_
    refine wa_cons ?_
    refine we_non ?_
    refine wa_cons ?_
    refine wv 2 rfl ?_
    refine wa_cons ?_
    refine we_str ?_
    refine wa_cons ?_
    refine we_lst ?_
    refine wa_cons ?_
    refine we_non ?_
    refine wa_nil ?_
    refine ⟨(by walk_at "size"), ?_⟩
    refine wa_cons ?_
    refine we_lst ?_
    refine wa_cons ?_
    refine wv 2 rfl ?_
    refine wa_cons ?_
    refine we_str ?_
    refine wa_nil ?_
    refine ⟨(by walk_at "size"), ?_⟩
    refine wa_cons ?_
    refine we_tup ?_
    refine wa_cons ?_
    refine wv 2 rfl ?_
    refine wa_cons ?_
    refine we_lst ?_
    refine wa_cons ?_
    refine wv 3 rfl ?_
    refine wa_nil ?_
    refine ⟨(by walk_at "size"), ?_⟩
    refine wa_nil ?_
    refine ⟨(by walk_at "size"), ?_⟩
    refine wa_cons ?_
    refine we_int ?_
    refine wa_cons ?_
    refine we_lst ?_
    refine wa_cons ?_
    refine we_lst ?_
    refine wa_nil ?_
    refine ⟨(by walk_at "size"), ?_⟩
    refine wa_nil ?_
    refine ⟨(by walk_at "size"), ?_⟩
    refine wa_nil ?_
    refine ⟨(by walk_at "size"), ?_⟩
    refine ws_wk (Γ' := [some (.lst (ns.map .int)), some (.adr l), some (.obj c.go f1), some (.obj c.stop f2), some (.lst (seqS c f1 f2 f3)), some (.lst (badS c f1 f2)), none, none, none, none, none, none, none, none, none, none]) (M' := dlT tb l l2 gs m) (by repeat (first | exact wkE | refine wkS ?_ | refine wkN ?_)) (List.Sublist.refl _) ?_
    refine ws_cons (w1_forR1 (by passes_own) rfl rfl B.range ?_)
    refine wa_cons ?_
    refine we_int ?_
    refine wa_nil ?_
    refine ⟨fun _ Γ M => Γ = [some (.lst (ns.map .int)), some (.adr l), some (.obj c.go f1), some (.obj c.stop f2), some (.lst (seqS c f1 f2 f3)), some (.lst (badS c f1 f2)), none, none, none, none, none, none, none, none, none, none] ∧ ∃ gs m, Good gs m ∧ M = dlT tb l l2 gs m, _, rfl, by decide, by decide, ⟨rfl, gs, m, hg, rfl⟩, ?_, ?_⟩
    · rintro i Γ' M' hi ⟨rfl, gs, m, hg, rfl⟩
      refine gd_name 6 sc_law.nd ?_
      refine ws_cons ?_
      refine w1_set (i := 7) (x := "_law_ways") ?pzc ?qzc ?rzc ?hzc ?czc ?dzc
      case pzc => exact sc_law.nd
      case qzc => rfl
      case rzc => first | exact Or.inl rfl | exact Or.inr rfl
      case czc => rfl
      case dzc => first | exact .inl rfl | exact .inr rfl
      refine wcf hSome (hr.mono (by decide)) ?_
      refine wa_cons ?_
      refine wv 1 rfl ?_
      refine wa_cons ?_
      refine we_lst ?_
      refine wa_cons ?_
      refine we_str ?_
      refine wa_cons ?_
      refine we_str ?_
      refine wa_cons ?_
      refine we_str ?_
      refine wa_cons ?_
      refine we_str ?_
      refine wa_nil ?_
      refine ⟨(by walk_at "size"), ?_⟩
      refine wa_cons ?_
      refine we_lst ?_
      refine wa_cons ?_
      refine we_str ?_
      refine wa_cons ?_
      refine we_str ?_
      refine wa_cons ?_
      refine we_non ?_
      refine wa_cons ?_
      refine we_int ?_
      refine wa_cons ?_
      refine we_str ?_
      refine wa_cons ?_
      refine we_lst ?_
      refine wa_cons ?_
      refine we_str ?_
      refine wa_nil ?_
      refine ⟨(by walk_at "size"), ?_⟩
      refine wa_cons ?_
      refine we_str ?_
      refine wa_nil ?_
      refine ⟨(by walk_at "size"), ?_⟩
      refine wa_nil ?_
      refine ⟨l, l2, 0, _, _, rfl, dlT_at hg, of_decide_eq_true rfl, of_decide_eq_true rfl, of_decide_eq_true rfl, of_decide_eq_true rfl, fun v1 b1 gs1 m1 hy1 hn1 hg1 => ?_⟩
      rw [dlT_put]
      have qv1 := ways_q hy1 hn1
      refine ws_wk (Γ' := [some (.lst (ns.map .int)), some (.adr l), some (.obj c.go f1), some (.obj c.stop f2), some (.lst (seqS c f1 f2 f3)), some (.lst (badS c f1 f2)), none, some (.tup [v1, .bl b1]), none, none, none, none, none, none, none, none]) (M' := dlT tb l l2 gs1 m1) (by repeat (first | exact wkE | refine wkS ?_ | refine wkN ?_)) (List.Sublist.refl _) ?_
      refine ws_cons ?_
      refine w1_set (i := 8) (x := "_law_steps") ?pzd ?qzd ?rzd ?hzd ?czd ?dzd
      case pzd => exact sc_law.nd
      case qzd => rfl
      case rzd => first | exact Or.inl rfl | exact Or.inr rfl
      case czd => rfl
      case dzd => first | exact .inl rfl | exact .inr rfl
      refine wcf hSome (hr.mono (by decide)) ?_
      refine wa_cons ?_
      refine wv 1 rfl ?_
      refine wa_cons ?_
      refine we_lst ?_
      refine wa_cons ?_
      refine we_int ?_
      refine wa_cons ?_
      refine we_int ?_
      refine wa_cons ?_
      refine we_int ?_
      refine wa_nil ?_
      refine ⟨(by walk_at "size"), ?_⟩
      refine wa_cons ?_
      refine we_lst ?_
      refine wa_cons ?_
      refine we_int ?_
      refine wa_cons ?_
      refine we_int ?_
      refine wa_cons ?_
      refine we_un ?_
      refine we_int ?_
      refine ud_neg ?_
      refine wa_cons ?_
      refine we_bl ?_
      refine wa_cons ?_
      refine we_str ?_
      refine wa_cons ?_
      refine we_non ?_
      refine wa_cons ?_
      refine we_bin ?_
      refine we_int ?_
      refine we_int ?_
      refine od_powV (v := 10 ^ 20) ⟨by decide, by decide, by decide⟩ rfl ?_
      refine wa_nil ?_
      refine ⟨(by walk_at "size"), ?_⟩
      refine wa_nil ?_
      refine ⟨l, l2, 0, _, _, rfl, dlT_at hg1, of_decide_eq_true rfl, of_decide_eq_true rfl, of_decide_eq_true rfl, of_decide_eq_true rfl, fun v2 b2 gs2 m2 hy2 hn2 hg2 => ?_⟩
      rw [dlT_put]
      have qv2 := steps_q hy2 hn2
      refine ws_wk (Γ' := [some (.lst (ns.map .int)), some (.adr l), some (.obj c.go f1), some (.obj c.stop f2), some (.lst (seqS c f1 f2 f3)), some (.lst (badS c f1 f2)), none, some (.tup [v1, .bl b1]), some (.tup [v2, .bl b2]), none, none, none, none, none, none, none]) (M' := dlT tb l l2 gs2 m2) (by repeat (first | exact wkE | refine wkS ?_ | refine wkN ?_)) (List.Sublist.refl _) ?_
      refine ws_cons ?_
      refine w1_set (i := 9) (x := "_law_odd") ?pze ?qze ?rze ?hze ?cze ?dze
      case pze => exact sc_law.nd
      case qze => rfl
      case rze => first | exact Or.inl rfl | exact Or.inr rfl
      case cze => rfl
      case dze => first | exact .inl rfl | exact .inr rfl
      refine we_lst ?_
      refine wa_cons ?_
      refine we_str ?_
      refine wa_cons ?_
      refine we_str ?_
      refine wa_cons ?_
      refine we_str ?_
      refine wa_cons ?_
      refine we_str ?_
      refine wa_cons ?_
      refine we_str ?_
      refine wa_cons ?_
      refine we_non ?_
      refine wa_cons ?_
      refine we_int ?_
      refine wa_cons ?_
      refine we_str ?_
      refine wa_nil ?_
      refine ⟨(by walk_at "size"), ?_⟩
      refine ws_cons ?_
      refine w1_set (i := 10) (x := "_law_tests") ?pzf ?qzf ?rzf ?hzf ?czf ?dzf
      case pzf => exact sc_law.nd
      case qzf => rfl
      case rzf => first | exact Or.inl rfl | exact Or.inr rfl
      case czf => rfl
      case dzf => first | exact .inl rfl | exact .inr rfl
      refine wcf hSome (hr.mono (by decide)) ?_
      refine wa_cons ?_
      refine wv 1 rfl ?_
      refine wa_cons ?_
      refine we_lst ?_
      refine wa_cons ?_
      refine we_str ?_
      refine wa_cons ?_
      refine we_str ?_
      refine wa_cons ?_
      refine we_str ?_
      refine wa_nil ?_
      refine ⟨(by walk_at "size"), ?_⟩
      refine wa_cons ?_
      refine wv 9 rfl ?_
      refine wa_nil ?_
      refine ⟨l, l2, 0, _, _, rfl, dlT_at hg2, of_decide_eq_true rfl, of_decide_eq_true rfl, of_decide_eq_true rfl, of_decide_eq_true rfl, fun v3 b3 gs3 m3 hy3 hn3 hg3 => ?_⟩
      rw [dlT_put]
      have qv3 := tests_q hy3 hn3
      refine ws_wk (Γ' := [some (.lst (ns.map .int)), some (.adr l), some (.obj c.go f1), some (.obj c.stop f2), some (.lst (seqS c f1 f2 f3)), some (.lst (badS c f1 f2)), none, some (.tup [v1, .bl b1]), some (.tup [v2, .bl b2]), none, some (.tup [v3, .bl b3]), none, none, none, none, none]) (M' := dlT tb l l2 gs3 m3) (by repeat (first | exact wkE | refine wkS ?_ | refine wkN ?_)) (List.Sublist.refl _) ?_
      refine ws_cons ?_
      refine w1_set (i := 11) (x := "_law_marks") ?pzg ?qzg ?rzg ?hzg ?czg ?dzg
      case pzg => exact sc_law.nd
      case qzg => rfl
      case rzg => first | exact Or.inl rfl | exact Or.inr rfl
      case czg => rfl
      case dzg => first | exact .inl rfl | exact .inr rfl
      refine wcf hSome (hr.mono (by decide)) ?_
      refine wa_cons ?_
      refine wv 1 rfl ?_
      refine wa_cons ?_
      refine we_lst ?_
      refine wa_cons ?_
      refine we_str ?_
      refine wa_cons ?_
      refine we_str ?_
      refine wa_cons ?_
      refine we_str ?_
      refine wa_nil ?_
      refine ⟨(by walk_at "size"), ?_⟩
      refine wa_cons ?_
      refine we_lst ?_
      refine wa_cons ?_
      refine we_str ?_
      refine wa_cons ?_
      refine we_str ?_
      refine wa_cons ?_
      refine we_str ?_
      refine wa_cons ?_
      refine we_non ?_
      refine wa_cons ?_
      refine we_str ?_
      refine wa_cons ?_
      refine we_lst ?_
      refine wa_cons ?_
      refine we_str ?_
      refine wa_nil ?_
      refine ⟨(by walk_at "size"), ?_⟩
      refine wa_cons ?_
      refine we_int ?_
      refine wa_nil ?_
      refine ⟨(by walk_at "size"), ?_⟩
      refine wa_nil ?_
      refine ⟨l, l2, 0, _, _, rfl, dlT_at hg3, of_decide_eq_true rfl, of_decide_eq_true rfl, of_decide_eq_true rfl, of_decide_eq_true rfl, fun v4 b4 gs4 m4 hy4 hn4 hg4 => ?_⟩
      rw [dlT_put]
      have qv4 := marks_q hy4 hn4
      refine ws_wk (Γ' := [some (.lst (ns.map .int)), some (.adr l), some (.obj c.go f1), some (.obj c.stop f2), some (.lst (seqS c f1 f2 f3)), some (.lst (badS c f1 f2)), none, some (.tup [v1, .bl b1]), some (.tup [v2, .bl b2]), none, some (.tup [v3, .bl b3]), some (.tup [v4, .bl b4]), none, none, none, none]) (M' := dlT tb l l2 gs4 m4) (by repeat (first | exact wkE | refine wkS ?_ | refine wkN ?_)) (List.Sublist.refl _) ?_
      refine ws_asg ?_
      refine we_tup ?_
      refine wa_cons ?_
      refine wcf hSome (hr.mono (by decide)) ?_
      refine wa_cons ?_
      refine wv 1 rfl ?_
      refine wa_cons ?_
      refine wv 4 rfl ?_
      refine wa_cons ?_
      refine wv 5 rfl ?_
      refine wa_nil ?_
      refine ⟨l, l2, 0, _, _, rfl, dlT_at hg4, of_decide_eq_true rfl, of_decide_eq_true rfl, of_decide_eq_true rfl, of_decide_eq_true rfl, fun v5 b5 gs5 m5 hy5 hn5 hg5 => ?_⟩
      rw [dlT_put]
      refine wa_cons ?_
      refine wcf hSome (hr.mono (by decide)) ?_
      refine wa_cons ?_
      refine wv 1 rfl ?_
      refine wa_cons ?_
      refine wv 4 rfl ?_
      refine wa_cons ?_
      refine wv 5 rfl ?_
      refine wa_nil ?_
      refine ⟨l, l2, 0, _, _, rfl, dlT_at hg5, of_decide_eq_true rfl, of_decide_eq_true rfl, of_decide_eq_true rfl, of_decide_eq_true rfl, fun v6 b6 gs6 m6 hy6 hn6 hg6 => ?_⟩
      rw [dlT_put]
      refine wa_nil ?_
      refine ⟨(by walk_at "size"), ?_⟩
      refine gd_tup rfl ?_ rfl
      refine gds_cons ?_
      refine gd_name 12 sc_law.nd ?_
      refine gds_cons ?_
      refine gd_name 13 sc_law.nd ?_
      refine gds_nil ?_
      have qv5 := rows_q hI hNo hy5 hn5
      have qv6 := rows_q hI hNo hy6 hn6
      refine ws_wk (Γ' := [some (.lst (ns.map .int)), some (.adr l), some (.obj c.go f1), some (.obj c.stop f2), some (.lst (seqS c f1 f2 f3)), some (.lst (badS c f1 f2)), none, some (.tup [v1, .bl b1]), some (.tup [v2, .bl b2]), none, some (.tup [v3, .bl b3]), some (.tup [v4, .bl b4]), some (.tup [v5, .bl b5]), some (.tup [v6, .bl b6]), none, none]) (M' := dlT tb l l2 gs6 m6) (by repeat (first | exact wkE | refine wkS ?_ | refine wkN ?_)) (List.Sublist.refl _) ?_
      refine ws_cons ?_
      refine w1_set (i := 14) (x := "_law_loops") ?pzh ?qzh ?rzh ?hzh ?czh ?dzh
      case pzh => exact sc_law.nd
      case qzh => rfl
      case rzh => first | exact Or.inl rfl | exact Or.inr rfl
      case czh => rfl
      case dzh => first | exact .inl rfl | exact .inr rfl
      refine wcf hSome (hr.mono (by decide)) ?_
      refine wa_cons ?_
      refine wv 1 rfl ?_
      refine wa_cons ?_
      refine we_bin ?_
      refine we_frz ?_
      refine we_slO ?_
      refine wv 4 rfl ?_
      refine wo_some ?_
      refine we_int ?_
      refine ⟨_, rfl, ?_⟩
      refine wo_some ?_
      refine we_int ?_
      refine ⟨_, rfl, ?_⟩
      refine ⟨_, .inl rfl, fun l9 => ⟨l9, _, _, rfl, rfl, ?_⟩⟩
      rw [show cutD (seqS c f1 f2 f3) (some 2) (some 3) = ([.lst [.obj c.go f1]] : List D) from rfl]
      refine we_frz ?_
      refine we_slO ?_
      refine wv 4 rfl ?_
      refine wo_some ?_
      refine we_int ?_
      refine ⟨_, rfl, ?_⟩
      refine wo_none ?_
      refine ⟨_, .inl rfl, fun l9 => ⟨l9, _, _, rfl, rfl, ?_⟩⟩
      rw [show cutD (seqS c f1 f2 f3) (some 4) none = ([.lst [.obj c.go f1, .obj c.ifr f3]] : List D) from rfl]
      refine od_catL (.inl rfl) (.inl rfl) (of_decide_eq_true rfl) ?_
      refine wa_cons ?_
      refine we_bin ?_
      refine wv 5 rfl ?_
      refine we_lst ?_
      refine wa_cons ?_
      refine we_lst ?_
      refine wa_nil ?_
      refine ⟨(by walk_at "size"), ?_⟩
      refine wa_cons ?_
      refine we_tup ?_
      refine wa_nil ?_
      refine ⟨(by walk_at "size"), ?_⟩
      refine wa_cons ?_
      refine we_lst ?_
      refine wa_cons ?_
      refine wv 3 rfl ?_
      refine wa_cons ?_
      refine wv 2 rfl ?_
      refine wa_nil ?_
      refine ⟨(by walk_at "size"), ?_⟩
      refine wa_cons ?_
      refine we_lst ?_
      refine wa_cons ?_
      refine we_x (wxm hIfD (hr.mono (by decide)) ?_)
      refine wa_cons ?_
      refine we_str ?_
      refine wa_cons ?_
      refine we_lst ?_
      refine wa_cons ?_
      refine wv 2 rfl ?_
      refine wa_nil ?_
      refine ⟨(by walk_at "size"), ?_⟩
      refine wa_nil ?_
      intro l9
      refine ⟨l9, _, _, _, true, true, true, _, rfl, rfl, x1_q, (are_of (f1 := f1) (f2 := f2) (f3 := []) hI hNo (.inl rfl) (of_decide_eq_true rfl) (fun y hy => by rw [List.mem_singleton] at hy; rw [hy]; exact .g) rfl), (are_of (f1 := f1) (f2 := f2) (f3 := []) hI hNo (.inr rfl) (by decide) (fun y hy => by cases hy) rfl), (fun w9 (hw9 : none = some w9) => nomatch hw9), fun _ f4 => ?_⟩
      refine ⟨rfl, f4, _, rfl, ?_⟩
      refine wa_nil ?_
      refine ⟨(by walk_at "size"), ?_⟩
      refine wa_nil ?_
      refine ⟨(by walk_at "size"), ?_⟩
      refine od_catL (.inl rfl) (.inl rfl) (of_decide_eq_true rfl) ?_
      refine wa_nil ?_
      refine ⟨l, l2, 0, _, _, rfl, dlT_at hg6, of_decide_eq_true rfl, of_decide_eq_true rfl, of_decide_eq_true rfl, of_decide_eq_true rfl, fun v7 b7 gs7 m7 hy7 hn7 hg7 => ?_⟩
      rw [dlT_put]
      have qv7 := loops_q (f4 := f4) hI hNo hy7 hn7
      refine ws_wk (Γ' := [some (.lst (ns.map .int)), some (.adr l), some (.obj c.go f1), some (.obj c.stop f2), some (.lst (seqS c f1 f2 f3)), some (.lst (badS c f1 f2)), none, some (.tup [v1, .bl b1]), some (.tup [v2, .bl b2]), none, some (.tup [v3, .bl b3]), some (.tup [v4, .bl b4]), some (.tup [v5, .bl b5]), some (.tup [v6, .bl b6]), some (.tup [v7, .bl b7]), none]) (M' := dlT tb l l2 gs7 m7) (by repeat (first | exact wkE | refine wkS ?_ | refine wkN ?_)) (List.Sublist.refl _) ?_
      cases hw1 : firstW [("way", b1), ("steps", b2)] with
      | none =>
        refine ws_if ?_
        refine wt_cmp ?_ (nomark _)
        refine we_cut (Φ0 := fun d9 M9 => d9 = D.non ∧ M9 = dlT tb l l2 gs7 m7) (we_lam (k := 8) (hWord _ rfl rfl) 2 rfl dlT_tab TB hcd (hr.mono (by decide)) (fun A9 o9 s9 H9 E9 f9 c9 hr9 => ?_)) ?_
        · skip
          refine wxm hGo (hr9.mono (by decide)) ?_
          refine wa_cons ?_
          refine we_ix ?_ (fun _ _ => rfl)
          refine wv 7 rfl ?_
          refine we_int ?_
          refine ix_tup (j := 0) rfl rfl ?_
          refine wa_cons ?_
          refine we_ix ?_ (fun _ _ => rfl)
          refine wv 8 rfl ?_
          refine we_int ?_
          refine ix_tup (j := 0) rfl rfl ?_
          refine wa_nil ?_
          intro l9
          refine ⟨l9, v1, v2, b1, b2, _, rfl, rfl, qv1, qv2, fun w9 hw9 => ?_, fun hw9 fs9 => ?_⟩
          · cases hw1.symm.trans hw9
          · exact ⟨rfl, fs9, _, rfl, rfl, rfl⟩
        rintro d9 M9 ⟨rfl, rfl⟩
        refine wcf hDue (hr.mono (by decide)) ?_
        refine wa_cons ?_
        refine we_lst ?_
        refine wa_cons ?_
        refine we_str ?_
        refine wa_cons ?_
        refine we_str ?_
        refine wa_nil ?_
        refine ⟨(by walk_at "size"), ?_⟩
        refine wa_cons ?_
        refine we_lst ?_
        refine wa_cons ?_
        refine we_ix ?_ (fun _ _ => rfl)
        refine wv 7 rfl ?_
        refine we_int ?_
        refine ix_tup (j := 1) rfl rfl ?_
        refine wa_cons ?_
        refine we_ix ?_ (fun _ _ => rfl)
        refine wv 8 rfl ?_
        refine we_int ?_
        refine ix_tup (j := 1) rfl rfl ?_
        refine wa_nil ?_
        refine ⟨(by walk_at "size"), ?_⟩
        refine wa_nil ?_
        refine ⟨[("way", b1), ("steps", b2)], rfl, of_decide_eq_true rfl, ?_⟩
        rw [hw1, show optW none = D.non from rfl]
        refine od_neSame hr.units rfl rfl ?_
        refine ⟨_, rfl, ?_⟩
        refine ⟨fun hb => ?_, fun hb => ?_⟩
        · walk_at "dead"
        · walk_at "tidy"
          refine ws_nil ?_
          refine ws_set 15 sc_law.nd ?_
          refine we_lst ?_
          refine wa_cons ?_
          refine we_ix ?_ (fun _ _ => rfl)
          refine wv 10 rfl ?_
          refine we_int ?_
          refine ix_tup (j := 1) rfl rfl ?_
          refine wa_cons ?_
          refine we_ix ?_ (fun _ _ => rfl)
          refine wv 12 rfl ?_
          refine we_int ?_
          refine ix_tup (j := 1) rfl rfl ?_
          refine wa_cons ?_
          refine we_ix ?_ (fun _ _ => rfl)
          refine wv 13 rfl ?_
          refine we_int ?_
          refine ix_tup (j := 1) rfl rfl ?_
          refine wa_nil ?_
          refine ⟨(by walk_at "size"), ?_⟩
          cases hw1 : firstW [("test", b3), ("rows", b5), ("others", b6)] with
          | none =>
            refine ws_if ?_
            refine wt_cmp ?_ (nomark _)
            refine we_cut (Φ0 := fun d9 M9 => d9 = D.non ∧ M9 = dlT tb l l2 gs7 m7) (we_lam (k := 8) (hWord _ rfl rfl) 2 rfl dlT_tab TB hcd (hr.mono (by decide)) (fun A9 o9 s9 H9 E9 f9 c9 hr9 => ?_)) ?_
            · skip
              refine wxm hIf (hr9.mono (by decide)) ?_
              refine wa_cons ?_
              refine we_ix ?_ (fun _ _ => rfl)
              refine wv 10 rfl ?_
              refine we_int ?_
              refine ix_tup (j := 0) rfl rfl ?_
              refine wa_cons ?_
              refine we_ix ?_ (fun _ _ => rfl)
              refine wv 12 rfl ?_
              refine we_int ?_
              refine ix_tup (j := 0) rfl rfl ?_
              refine wa_cons ?_
              refine we_ix ?_ (fun _ _ => rfl)
              refine wv 13 rfl ?_
              refine we_int ?_
              refine ix_tup (j := 0) rfl rfl ?_
              refine wa_nil ?_
              intro l9
              refine ⟨l9, v3, v5, v6, b3, b5, b6, _, rfl, rfl, qv3, qv5, qv6, fun w9 hw9 => ?_, fun hw9 fs9 => ?_⟩
              · cases hw1.symm.trans hw9
              · exact ⟨rfl, fs9, _, rfl, rfl, rfl⟩
            rintro d9 M9 ⟨rfl, rfl⟩
            refine wcf hDue (hr.mono (by decide)) ?_
            refine wa_cons ?_
            refine we_lst ?_
            refine wa_cons ?_
            refine we_str ?_
            refine wa_cons ?_
            refine we_str ?_
            refine wa_cons ?_
            refine we_str ?_
            refine wa_nil ?_
            refine ⟨(by walk_at "size"), ?_⟩
            refine wa_cons ?_
            refine wv 15 rfl ?_
            refine wa_nil ?_
            refine ⟨[("test", b3), ("rows", b5), ("others", b6)], rfl, of_decide_eq_true rfl, ?_⟩
            rw [hw1, show optW none = D.non from rfl]
            refine od_neSame hr.units rfl rfl ?_
            refine ⟨_, rfl, ?_⟩
            refine ⟨fun hb => ?_, fun hb => ?_⟩
            · walk_at "dead"
            · walk_at "tidy"
              refine ws_nil ?_
              refine ws_set 15 sc_law.nd ?_
              refine we_lst ?_
              refine wa_cons ?_
              refine we_ix ?_ (fun _ _ => rfl)
              refine wv 11 rfl ?_
              refine we_int ?_
              refine ix_tup (j := 1) rfl rfl ?_
              refine wa_cons ?_
              refine we_ix ?_ (fun _ _ => rfl)
              refine wv 12 rfl ?_
              refine we_int ?_
              refine ix_tup (j := 1) rfl rfl ?_
              refine wa_cons ?_
              refine we_ix ?_ (fun _ _ => rfl)
              refine wv 13 rfl ?_
              refine we_int ?_
              refine ix_tup (j := 1) rfl rfl ?_
              refine wa_nil ?_
              refine ⟨(by walk_at "size"), ?_⟩
              cases hw1 : firstW [("mark", b4), ("rows", b5), ("others", b6)] with
              | none =>
                refine ws_if ?_
                refine wt_cmp ?_ (nomark _)
                refine we_cut (Φ0 := fun d9 M9 => d9 = D.non ∧ M9 = dlT tb l l2 gs7 m7) (we_lam (k := 8) (hWord _ rfl rfl) 2 rfl dlT_tab TB hcd (hr.mono (by decide)) (fun A9 o9 s9 H9 E9 f9 c9 hr9 => ?_)) ?_
                · skip
                  refine wxm hSee (hr9.mono (by decide)) ?_
                  refine wa_cons ?_
                  refine we_ix ?_ (fun _ _ => rfl)
                  refine wv 11 rfl ?_
                  refine we_int ?_
                  refine ix_tup (j := 0) rfl rfl ?_
                  refine wa_cons ?_
                  refine we_ix ?_ (fun _ _ => rfl)
                  refine wv 12 rfl ?_
                  refine we_int ?_
                  refine ix_tup (j := 0) rfl rfl ?_
                  refine wa_cons ?_
                  refine we_ix ?_ (fun _ _ => rfl)
                  refine wv 13 rfl ?_
                  refine we_int ?_
                  refine ix_tup (j := 0) rfl rfl ?_
                  refine wa_nil ?_
                  intro l9
                  refine ⟨l9, v4, v5, v6, b4, b5, b6, _, rfl, rfl, qv4, qv5, qv6, fun w9 hw9 => ?_, fun hw9 fs9 => ?_⟩
                  · cases hw1.symm.trans hw9
                  · exact ⟨rfl, fs9, _, rfl, rfl, rfl⟩
                rintro d9 M9 ⟨rfl, rfl⟩
                refine wcf hDue (hr.mono (by decide)) ?_
                refine wa_cons ?_
                refine we_lst ?_
                refine wa_cons ?_
                refine we_str ?_
                refine wa_cons ?_
                refine we_str ?_
                refine wa_cons ?_
                refine we_str ?_
                refine wa_nil ?_
                refine ⟨(by walk_at "size"), ?_⟩
                refine wa_cons ?_
                refine wv 15 rfl ?_
                refine wa_nil ?_
                refine ⟨[("mark", b4), ("rows", b5), ("others", b6)], rfl, of_decide_eq_true rfl, ?_⟩
                rw [hw1, show optW none = D.non from rfl]
                refine od_neSame hr.units rfl rfl ?_
                refine ⟨_, rfl, ?_⟩
                refine ⟨fun hb => ?_, fun hb => ?_⟩
                · walk_at "dead"
                · walk_at "tidy"
                  refine ws_nil ?_
                  cases hw1 : firstW [("test", b3), ("rows", b7)] with
                  | none =>
                    refine ws_if ?_
                    refine wt_cmp ?_ (nomark _)
                    refine we_cut (Φ0 := fun d9 M9 => d9 = D.non ∧ M9 = dlT tb l l2 gs7 m7) (we_lam (k := 8) (hWord _ rfl rfl) 2 rfl dlT_tab TB hcd (hr.mono (by decide)) (fun A9 o9 s9 H9 E9 f9 c9 hr9 => ?_)) ?_
                    · skip
                      refine wxm hWhi (hr9.mono (by decide)) ?_
                      refine wa_cons ?_
                      refine we_ix ?_ (fun _ _ => rfl)
                      refine wv 10 rfl ?_
                      refine we_int ?_
                      refine ix_tup (j := 0) rfl rfl ?_
                      refine wa_cons ?_
                      refine we_ix ?_ (fun _ _ => rfl)
                      refine wv 14 rfl ?_
                      refine we_int ?_
                      refine ix_tup (j := 0) rfl rfl ?_
                      refine wa_nil ?_
                      intro l9
                      refine ⟨l9, v3, v7, b3, b7, _, rfl, rfl, qv3, qv7, fun w9 hw9 => ?_, fun hw9 fs9 => ?_⟩
                      · cases hw1.symm.trans hw9
                      · exact ⟨rfl, fs9, _, rfl, rfl, rfl⟩
                    rintro d9 M9 ⟨rfl, rfl⟩
                    refine wcf hDue (hr.mono (by decide)) ?_
                    refine wa_cons ?_
                    refine we_lst ?_
                    refine wa_cons ?_
                    refine we_str ?_
                    refine wa_cons ?_
                    refine we_str ?_
                    refine wa_nil ?_
                    refine ⟨(by walk_at "size"), ?_⟩
                    refine wa_cons ?_
                    refine we_lst ?_
                    refine wa_cons ?_
                    refine we_ix ?_ (fun _ _ => rfl)
                    refine wv 10 rfl ?_
                    refine we_int ?_
                    refine ix_tup (j := 1) rfl rfl ?_
                    refine wa_cons ?_
                    refine we_ix ?_ (fun _ _ => rfl)
                    refine wv 14 rfl ?_
                    refine we_int ?_
                    refine ix_tup (j := 1) rfl rfl ?_
                    refine wa_nil ?_
                    refine ⟨(by walk_at "size"), ?_⟩
                    refine wa_nil ?_
                    refine ⟨[("test", b3), ("rows", b7)], rfl, of_decide_eq_true rfl, ?_⟩
                    rw [hw1, show optW none = D.non from rfl]
                    refine od_neSame hr.units rfl rfl ?_
                    refine ⟨_, rfl, ?_⟩
                    refine ⟨fun hb => ?_, fun hb => ?_⟩
                    · walk_at "dead"
                    · walk_at "tidy"
                      refine ws_nil ?_
                      cases hw1 : firstW [("room", b4)] with
                      | none =>
                        refine ws_if ?_
                        refine wt_cmp ?_ (nomark _)
                        refine we_cut (Φ0 := fun d9 M9 => d9 = D.non ∧ M9 = dlT tb l l2 gs7 m7) (we_lam (k := 8) (hWord _ rfl rfl) 2 rfl dlT_tab TB hcd (hr.mono (by decide)) (fun A9 o9 s9 H9 E9 f9 c9 hr9 => ?_)) ?_
                        · skip
                          refine wxm hStop (hr9.mono (by decide)) ?_
                          refine wa_cons ?_
                          refine we_ix ?_ (fun _ _ => rfl)
                          refine wv 11 rfl ?_
                          refine we_int ?_
                          refine ix_tup (j := 0) rfl rfl ?_
                          refine wa_nil ?_
                          intro l9
                          refine ⟨l9, v4, b4, _, rfl, rfl, qv4, fun w9 hw9 => ?_, fun hw9 fs9 => ?_⟩
                          · cases hw1.symm.trans hw9
                          · exact ⟨rfl, fs9, _, rfl, rfl, rfl⟩
                        rintro d9 M9 ⟨rfl, rfl⟩
                        refine wcf hDue (hr.mono (by decide)) ?_
                        refine wa_cons ?_
                        refine we_lst ?_
                        refine wa_cons ?_
                        refine we_str ?_
                        refine wa_nil ?_
                        refine ⟨(by walk_at "size"), ?_⟩
                        refine wa_cons ?_
                        refine we_lst ?_
                        refine wa_cons ?_
                        refine we_ix ?_ (fun _ _ => rfl)
                        refine wv 11 rfl ?_
                        refine we_int ?_
                        refine ix_tup (j := 1) rfl rfl ?_
                        refine wa_nil ?_
                        refine ⟨(by walk_at "size"), ?_⟩
                        refine wa_nil ?_
                        refine ⟨[("room", b4)], rfl, of_decide_eq_true rfl, ?_⟩
                        rw [hw1, show optW none = D.non from rfl]
                        refine od_neSame hr.units rfl rfl ?_
                        refine ⟨_, rfl, ?_⟩
                        refine ⟨fun hb => ?_, fun hb => ?_⟩
                        · walk_at "dead"
                        · walk_at "tidy"
                          refine ws_nil ?_
                          refine ws_wk (Γ' := [some (.lst (ns.map .int)), some (.adr l), some (.obj c.go f1), some (.obj c.stop f2), some (.lst (seqS c f1 f2 f3)), some (.lst (badS c f1 f2)), none, none, none, none, none, none, none, none, none, none]) (M' := _) (by repeat (first | exact wkE | refine wkS ?_ | refine wkN ?_)) (List.Sublist.refl _) ?_
                          refine ws_nil ?_
                          exact ⟨rfl, _, _, hg7, rfl⟩
                      | some w8 =>
                        refine ws_if ?_
                        refine wt_cmp ?_ (nomark _)
                        refine we_cut (Φ0 := fun d9 M9 => d9 = .str w8 ∧ M9 = dlT tb l l2 gs7 m7) (we_lam (k := 8) (hWord _ rfl rfl) 2 rfl dlT_tab TB hcd (hr.mono (by decide)) (fun A9 o9 s9 H9 E9 f9 c9 hr9 => ?_)) ?_
                        · skip
                          refine wxm hStop (hr9.mono (by decide)) ?_
                          refine wa_cons ?_
                          refine we_ix ?_ (fun _ _ => rfl)
                          refine wv 11 rfl ?_
                          refine we_int ?_
                          refine ix_tup (j := 0) rfl rfl ?_
                          refine wa_nil ?_
                          intro l9
                          refine ⟨l9, v4, b4, _, rfl, rfl, qv4, fun w9 hw9 => ?_, fun hw9 fs9 => ?_⟩
                          · cases hw1.symm.trans hw9
                            exact ⟨_, _, rfl, w8, rfl, rfl, rfl, rfl⟩
                          · cases hw1.symm.trans hw9
                        rintro d9 M9 ⟨rfl, rfl⟩
                        refine wcf hDue (hr.mono (by decide)) ?_
                        refine wa_cons ?_
                        refine we_lst ?_
                        refine wa_cons ?_
                        refine we_str ?_
                        refine wa_nil ?_
                        refine ⟨(by walk_at "size"), ?_⟩
                        refine wa_cons ?_
                        refine we_lst ?_
                        refine wa_cons ?_
                        refine we_ix ?_ (fun _ _ => rfl)
                        refine wv 11 rfl ?_
                        refine we_int ?_
                        refine ix_tup (j := 1) rfl rfl ?_
                        refine wa_nil ?_
                        refine ⟨(by walk_at "size"), ?_⟩
                        refine wa_nil ?_
                        refine ⟨[("room", b4)], rfl, of_decide_eq_true rfl, ?_⟩
                        rw [hw1, show optW (some w8) = .str w8 from rfl]
                        refine od_neS ?_
                        rw [decide_eq_true rfl]
                        refine ⟨_, rfl, ?_⟩
                        refine ⟨fun hb => ?_, fun hb => ?_⟩
                        · walk_at "dead"
                        · walk_at "tidy"
                          refine ws_nil ?_
                          refine ws_wk (Γ' := [some (.lst (ns.map .int)), some (.adr l), some (.obj c.go f1), some (.obj c.stop f2), some (.lst (seqS c f1 f2 f3)), some (.lst (badS c f1 f2)), none, none, none, none, none, none, none, none, none, none]) (M' := _) (by repeat (first | exact wkE | refine wkS ?_ | refine wkN ?_)) (List.Sublist.refl _) ?_
                          refine ws_nil ?_
                          exact ⟨rfl, _, _, hg7, rfl⟩
                  | some w8 =>
                    refine ws_if ?_
                    refine wt_cmp ?_ (nomark _)
                    refine we_cut (Φ0 := fun d9 M9 => d9 = .str w8 ∧ M9 = dlT tb l l2 gs7 m7) (we_lam (k := 8) (hWord _ rfl rfl) 2 rfl dlT_tab TB hcd (hr.mono (by decide)) (fun A9 o9 s9 H9 E9 f9 c9 hr9 => ?_)) ?_
                    · skip
                      refine wxm hWhi (hr9.mono (by decide)) ?_
                      refine wa_cons ?_
                      refine we_ix ?_ (fun _ _ => rfl)
                      refine wv 10 rfl ?_
                      refine we_int ?_
                      refine ix_tup (j := 0) rfl rfl ?_
                      refine wa_cons ?_
                      refine we_ix ?_ (fun _ _ => rfl)
                      refine wv 14 rfl ?_
                      refine we_int ?_
                      refine ix_tup (j := 0) rfl rfl ?_
                      refine wa_nil ?_
                      intro l9
                      refine ⟨l9, v3, v7, b3, b7, _, rfl, rfl, qv3, qv7, fun w9 hw9 => ?_, fun hw9 fs9 => ?_⟩
                      · cases hw1.symm.trans hw9
                        exact ⟨_, _, rfl, w8, rfl, rfl, rfl, rfl⟩
                      · cases hw1.symm.trans hw9
                    rintro d9 M9 ⟨rfl, rfl⟩
                    refine wcf hDue (hr.mono (by decide)) ?_
                    refine wa_cons ?_
                    refine we_lst ?_
                    refine wa_cons ?_
                    refine we_str ?_
                    refine wa_cons ?_
                    refine we_str ?_
                    refine wa_nil ?_
                    refine ⟨(by walk_at "size"), ?_⟩
                    refine wa_cons ?_
                    refine we_lst ?_
                    refine wa_cons ?_
                    refine we_ix ?_ (fun _ _ => rfl)
                    refine wv 10 rfl ?_
                    refine we_int ?_
                    refine ix_tup (j := 1) rfl rfl ?_
                    refine wa_cons ?_
                    refine we_ix ?_ (fun _ _ => rfl)
                    refine wv 14 rfl ?_
                    refine we_int ?_
                    refine ix_tup (j := 1) rfl rfl ?_
                    refine wa_nil ?_
                    refine ⟨(by walk_at "size"), ?_⟩
                    refine wa_nil ?_
                    refine ⟨[("test", b3), ("rows", b7)], rfl, of_decide_eq_true rfl, ?_⟩
                    rw [hw1, show optW (some w8) = .str w8 from rfl]
                    refine od_neS ?_
                    rw [decide_eq_true rfl]
                    refine ⟨_, rfl, ?_⟩
                    refine ⟨fun hb => ?_, fun hb => ?_⟩
                    · walk_at "dead"
                    · walk_at "tidy"
                      refine ws_nil ?_
                      cases hw1 : firstW [("room", b4)] with
                      | none =>
                        refine ws_if ?_
                        refine wt_cmp ?_ (nomark _)
                        refine we_cut (Φ0 := fun d9 M9 => d9 = D.non ∧ M9 = dlT tb l l2 gs7 m7) (we_lam (k := 8) (hWord _ rfl rfl) 2 rfl dlT_tab TB hcd (hr.mono (by decide)) (fun A9 o9 s9 H9 E9 f9 c9 hr9 => ?_)) ?_
                        · skip
                          refine wxm hStop (hr9.mono (by decide)) ?_
                          refine wa_cons ?_
                          refine we_ix ?_ (fun _ _ => rfl)
                          refine wv 11 rfl ?_
                          refine we_int ?_
                          refine ix_tup (j := 0) rfl rfl ?_
                          refine wa_nil ?_
                          intro l9
                          refine ⟨l9, v4, b4, _, rfl, rfl, qv4, fun w9 hw9 => ?_, fun hw9 fs9 => ?_⟩
                          · cases hw1.symm.trans hw9
                          · exact ⟨rfl, fs9, _, rfl, rfl, rfl⟩
                        rintro d9 M9 ⟨rfl, rfl⟩
                        refine wcf hDue (hr.mono (by decide)) ?_
                        refine wa_cons ?_
                        refine we_lst ?_
                        refine wa_cons ?_
                        refine we_str ?_
                        refine wa_nil ?_
                        refine ⟨(by walk_at "size"), ?_⟩
                        refine wa_cons ?_
                        refine we_lst ?_
                        refine wa_cons ?_
                        refine we_ix ?_ (fun _ _ => rfl)
                        refine wv 11 rfl ?_
                        refine we_int ?_
                        refine ix_tup (j := 1) rfl rfl ?_
                        refine wa_nil ?_
                        refine ⟨(by walk_at "size"), ?_⟩
                        refine wa_nil ?_
                        refine ⟨[("room", b4)], rfl, of_decide_eq_true rfl, ?_⟩
                        rw [hw1, show optW none = D.non from rfl]
                        refine od_neSame hr.units rfl rfl ?_
                        refine ⟨_, rfl, ?_⟩
                        refine ⟨fun hb => ?_, fun hb => ?_⟩
                        · walk_at "dead"
                        · walk_at "tidy"
                          refine ws_nil ?_
                          refine ws_wk (Γ' := [some (.lst (ns.map .int)), some (.adr l), some (.obj c.go f1), some (.obj c.stop f2), some (.lst (seqS c f1 f2 f3)), some (.lst (badS c f1 f2)), none, none, none, none, none, none, none, none, none, none]) (M' := _) (by repeat (first | exact wkE | refine wkS ?_ | refine wkN ?_)) (List.Sublist.refl _) ?_
                          refine ws_nil ?_
                          exact ⟨rfl, _, _, hg7, rfl⟩
                      | some w8 =>
                        refine ws_if ?_
                        refine wt_cmp ?_ (nomark _)
                        refine we_cut (Φ0 := fun d9 M9 => d9 = .str w8 ∧ M9 = dlT tb l l2 gs7 m7) (we_lam (k := 8) (hWord _ rfl rfl) 2 rfl dlT_tab TB hcd (hr.mono (by decide)) (fun A9 o9 s9 H9 E9 f9 c9 hr9 => ?_)) ?_
                        · skip
                          refine wxm hStop (hr9.mono (by decide)) ?_
                          refine wa_cons ?_
                          refine we_ix ?_ (fun _ _ => rfl)
                          refine wv 11 rfl ?_
                          refine we_int ?_
                          refine ix_tup (j := 0) rfl rfl ?_
                          refine wa_nil ?_
                          intro l9
                          refine ⟨l9, v4, b4, _, rfl, rfl, qv4, fun w9 hw9 => ?_, fun hw9 fs9 => ?_⟩
                          · cases hw1.symm.trans hw9
                            exact ⟨_, _, rfl, w8, rfl, rfl, rfl, rfl⟩
                          · cases hw1.symm.trans hw9
                        rintro d9 M9 ⟨rfl, rfl⟩
                        refine wcf hDue (hr.mono (by decide)) ?_
                        refine wa_cons ?_
                        refine we_lst ?_
                        refine wa_cons ?_
                        refine we_str ?_
                        refine wa_nil ?_
                        refine ⟨(by walk_at "size"), ?_⟩
                        refine wa_cons ?_
                        refine we_lst ?_
                        refine wa_cons ?_
                        refine we_ix ?_ (fun _ _ => rfl)
                        refine wv 11 rfl ?_
                        refine we_int ?_
                        refine ix_tup (j := 1) rfl rfl ?_
                        refine wa_nil ?_
                        refine ⟨(by walk_at "size"), ?_⟩
                        refine wa_nil ?_
                        refine ⟨[("room", b4)], rfl, of_decide_eq_true rfl, ?_⟩
                        rw [hw1, show optW (some w8) = .str w8 from rfl]
                        refine od_neS ?_
                        rw [decide_eq_true rfl]
                        refine ⟨_, rfl, ?_⟩
                        refine ⟨fun hb => ?_, fun hb => ?_⟩
                        · walk_at "dead"
                        · walk_at "tidy"
                          refine ws_nil ?_
                          refine ws_wk (Γ' := [some (.lst (ns.map .int)), some (.adr l), some (.obj c.go f1), some (.obj c.stop f2), some (.lst (seqS c f1 f2 f3)), some (.lst (badS c f1 f2)), none, none, none, none, none, none, none, none, none, none]) (M' := _) (by repeat (first | exact wkE | refine wkS ?_ | refine wkN ?_)) (List.Sublist.refl _) ?_
                          refine ws_nil ?_
                          exact ⟨rfl, _, _, hg7, rfl⟩
              | some w8 =>
                refine ws_if ?_
                refine wt_cmp ?_ (nomark _)
                refine we_cut (Φ0 := fun d9 M9 => d9 = .str w8 ∧ M9 = dlT tb l l2 gs7 m7) (we_lam (k := 8) (hWord _ rfl rfl) 2 rfl dlT_tab TB hcd (hr.mono (by decide)) (fun A9 o9 s9 H9 E9 f9 c9 hr9 => ?_)) ?_
                · skip
                  refine wxm hSee (hr9.mono (by decide)) ?_
                  refine wa_cons ?_
                  refine we_ix ?_ (fun _ _ => rfl)
                  refine wv 11 rfl ?_
                  refine we_int ?_
                  refine ix_tup (j := 0) rfl rfl ?_
                  refine wa_cons ?_
                  refine we_ix ?_ (fun _ _ => rfl)
                  refine wv 12 rfl ?_
                  refine we_int ?_
                  refine ix_tup (j := 0) rfl rfl ?_
                  refine wa_cons ?_
                  refine we_ix ?_ (fun _ _ => rfl)
                  refine wv 13 rfl ?_
                  refine we_int ?_
                  refine ix_tup (j := 0) rfl rfl ?_
                  refine wa_nil ?_
                  intro l9
                  refine ⟨l9, v4, v5, v6, b4, b5, b6, _, rfl, rfl, qv4, qv5, qv6, fun w9 hw9 => ?_, fun hw9 fs9 => ?_⟩
                  · cases hw1.symm.trans hw9
                    exact ⟨_, _, rfl, w8, rfl, rfl, rfl, rfl⟩
                  · cases hw1.symm.trans hw9
                rintro d9 M9 ⟨rfl, rfl⟩
                refine wcf hDue (hr.mono (by decide)) ?_
                refine wa_cons ?_
                refine we_lst ?_
                refine wa_cons ?_
                refine we_str ?_
                refine wa_cons ?_
                refine we_str ?_
                refine wa_cons ?_
                refine we_str ?_
                refine wa_nil ?_
                refine ⟨(by walk_at "size"), ?_⟩
                refine wa_cons ?_
                refine wv 15 rfl ?_
                refine wa_nil ?_
                refine ⟨[("mark", b4), ("rows", b5), ("others", b6)], rfl, of_decide_eq_true rfl, ?_⟩
                rw [hw1, show optW (some w8) = .str w8 from rfl]
                refine od_neS ?_
                rw [decide_eq_true rfl]
                refine ⟨_, rfl, ?_⟩
                refine ⟨fun hb => ?_, fun hb => ?_⟩
                · walk_at "dead"
                · walk_at "tidy"
                  refine ws_nil ?_
                  cases hw1 : firstW [("test", b3), ("rows", b7)] with
                  | none =>
                    refine ws_if ?_
                    refine wt_cmp ?_ (nomark _)
                    refine we_cut (Φ0 := fun d9 M9 => d9 = D.non ∧ M9 = dlT tb l l2 gs7 m7) (we_lam (k := 8) (hWord _ rfl rfl) 2 rfl dlT_tab TB hcd (hr.mono (by decide)) (fun A9 o9 s9 H9 E9 f9 c9 hr9 => ?_)) ?_
                    · skip
                      refine wxm hWhi (hr9.mono (by decide)) ?_
                      refine wa_cons ?_
                      refine we_ix ?_ (fun _ _ => rfl)
                      refine wv 10 rfl ?_
                      refine we_int ?_
                      refine ix_tup (j := 0) rfl rfl ?_
                      refine wa_cons ?_
                      refine we_ix ?_ (fun _ _ => rfl)
                      refine wv 14 rfl ?_
                      refine we_int ?_
                      refine ix_tup (j := 0) rfl rfl ?_
                      refine wa_nil ?_
                      intro l9
                      refine ⟨l9, v3, v7, b3, b7, _, rfl, rfl, qv3, qv7, fun w9 hw9 => ?_, fun hw9 fs9 => ?_⟩
                      · cases hw1.symm.trans hw9
                      · exact ⟨rfl, fs9, _, rfl, rfl, rfl⟩
                    rintro d9 M9 ⟨rfl, rfl⟩
                    refine wcf hDue (hr.mono (by decide)) ?_
                    refine wa_cons ?_
                    refine we_lst ?_
                    refine wa_cons ?_
                    refine we_str ?_
                    refine wa_cons ?_
                    refine we_str ?_
                    refine wa_nil ?_
                    refine ⟨(by walk_at "size"), ?_⟩
                    refine wa_cons ?_
                    refine we_lst ?_
                    refine wa_cons ?_
                    refine we_ix ?_ (fun _ _ => rfl)
                    refine wv 10 rfl ?_
                    refine we_int ?_
                    refine ix_tup (j := 1) rfl rfl ?_
                    refine wa_cons ?_
                    refine we_ix ?_ (fun _ _ => rfl)
                    refine wv 14 rfl ?_
                    refine we_int ?_
                    refine ix_tup (j := 1) rfl rfl ?_
                    refine wa_nil ?_
                    refine ⟨(by walk_at "size"), ?_⟩
                    refine wa_nil ?_
                    refine ⟨[("test", b3), ("rows", b7)], rfl, of_decide_eq_true rfl, ?_⟩
                    rw [hw1, show optW none = D.non from rfl]
                    refine od_neSame hr.units rfl rfl ?_
                    refine ⟨_, rfl, ?_⟩
                    refine ⟨fun hb => ?_, fun hb => ?_⟩
                    · walk_at "dead"
                    · walk_at "tidy"
                      refine ws_nil ?_
                      cases hw1 : firstW [("room", b4)] with
                      | none =>
                        refine ws_if ?_
                        refine wt_cmp ?_ (nomark _)
                        refine we_cut (Φ0 := fun d9 M9 => d9 = D.non ∧ M9 = dlT tb l l2 gs7 m7) (we_lam (k := 8) (hWord _ rfl rfl) 2 rfl dlT_tab TB hcd (hr.mono (by decide)) (fun A9 o9 s9 H9 E9 f9 c9 hr9 => ?_)) ?_
                        · skip
                          refine wxm hStop (hr9.mono (by decide)) ?_
                          refine wa_cons ?_
                          refine we_ix ?_ (fun _ _ => rfl)
                          refine wv 11 rfl ?_
                          refine we_int ?_
                          refine ix_tup (j := 0) rfl rfl ?_
                          refine wa_nil ?_
                          intro l9
                          refine ⟨l9, v4, b4, _, rfl, rfl, qv4, fun w9 hw9 => ?_, fun hw9 fs9 => ?_⟩
                          · cases hw1.symm.trans hw9
                          · exact ⟨rfl, fs9, _, rfl, rfl, rfl⟩
                        rintro d9 M9 ⟨rfl, rfl⟩
                        refine wcf hDue (hr.mono (by decide)) ?_
                        refine wa_cons ?_
                        refine we_lst ?_
                        refine wa_cons ?_
                        refine we_str ?_
                        refine wa_nil ?_
                        refine ⟨(by walk_at "size"), ?_⟩
                        refine wa_cons ?_
                        refine we_lst ?_
                        refine wa_cons ?_
                        refine we_ix ?_ (fun _ _ => rfl)
                        refine wv 11 rfl ?_
                        refine we_int ?_
                        refine ix_tup (j := 1) rfl rfl ?_
                        refine wa_nil ?_
                        refine ⟨(by walk_at "size"), ?_⟩
                        refine wa_nil ?_
                        refine ⟨[("room", b4)], rfl, of_decide_eq_true rfl, ?_⟩
                        rw [hw1, show optW none = D.non from rfl]
                        refine od_neSame hr.units rfl rfl ?_
                        refine ⟨_, rfl, ?_⟩
                        refine ⟨fun hb => ?_, fun hb => ?_⟩
                        · walk_at "dead"
                        · walk_at "tidy"
                          refine ws_nil ?_
                          refine ws_wk (Γ' := [some (.lst (ns.map .int)), some (.adr l), some (.obj c.go f1), some (.obj c.stop f2), some (.lst (seqS c f1 f2 f3)), some (.lst (badS c f1 f2)), none, none, none, none, none, none, none, none, none, none]) (M' := _) (by repeat (first | exact wkE | refine wkS ?_ | refine wkN ?_)) (List.Sublist.refl _) ?_
                          refine ws_nil ?_
                          exact ⟨rfl, _, _, hg7, rfl⟩
                      | some w8 =>
                        refine ws_if ?_
                        refine wt_cmp ?_ (nomark _)
                        refine we_cut (Φ0 := fun d9 M9 => d9 = .str w8 ∧ M9 = dlT tb l l2 gs7 m7) (we_lam (k := 8) (hWord _ rfl rfl) 2 rfl dlT_tab TB hcd (hr.mono (by decide)) (fun A9 o9 s9 H9 E9 f9 c9 hr9 => ?_)) ?_
                        · skip
                          refine wxm hStop (hr9.mono (by decide)) ?_
                          refine wa_cons ?_
                          refine we_ix ?_ (fun _ _ => rfl)
                          refine wv 11 rfl ?_
                          refine we_int ?_
                          refine ix_tup (j := 0) rfl rfl ?_
                          refine wa_nil ?_
                          intro l9
                          refine ⟨l9, v4, b4, _, rfl, rfl, qv4, fun w9 hw9 => ?_, fun hw9 fs9 => ?_⟩
                          · cases hw1.symm.trans hw9
                            exact ⟨_, _, rfl, w8, rfl, rfl, rfl, rfl⟩
                          · cases hw1.symm.trans hw9
                        rintro d9 M9 ⟨rfl, rfl⟩
                        refine wcf hDue (hr.mono (by decide)) ?_
                        refine wa_cons ?_
                        refine we_lst ?_
                        refine wa_cons ?_
                        refine we_str ?_
                        refine wa_nil ?_
                        refine ⟨(by walk_at "size"), ?_⟩
                        refine wa_cons ?_
                        refine we_lst ?_
                        refine wa_cons ?_
                        refine we_ix ?_ (fun _ _ => rfl)
                        refine wv 11 rfl ?_
                        refine we_int ?_
                        refine ix_tup (j := 1) rfl rfl ?_
                        refine wa_nil ?_
                        refine ⟨(by walk_at "size"), ?_⟩
                        refine wa_nil ?_
                        refine ⟨[("room", b4)], rfl, of_decide_eq_true rfl, ?_⟩
                        rw [hw1, show optW (some w8) = .str w8 from rfl]
                        refine od_neS ?_
                        rw [decide_eq_true rfl]
                        refine ⟨_, rfl, ?_⟩
                        refine ⟨fun hb => ?_, fun hb => ?_⟩
                        · walk_at "dead"
                        · walk_at "tidy"
                          refine ws_nil ?_
                          refine ws_wk (Γ' := [some (.lst (ns.map .int)), some (.adr l), some (.obj c.go f1), some (.obj c.stop f2), some (.lst (seqS c f1 f2 f3)), some (.lst (badS c f1 f2)), none, none, none, none, none, none, none, none, none, none]) (M' := _) (by repeat (first | exact wkE | refine wkS ?_ | refine wkN ?_)) (List.Sublist.refl _) ?_
                          refine ws_nil ?_
                          exact ⟨rfl, _, _, hg7, rfl⟩
                  | some w8 =>
                    refine ws_if ?_
                    refine wt_cmp ?_ (nomark _)
                    refine we_cut (Φ0 := fun d9 M9 => d9 = .str w8 ∧ M9 = dlT tb l l2 gs7 m7) (we_lam (k := 8) (hWord _ rfl rfl) 2 rfl dlT_tab TB hcd (hr.mono (by decide)) (fun A9 o9 s9 H9 E9 f9 c9 hr9 => ?_)) ?_
                    · skip
                      refine wxm hWhi (hr9.mono (by decide)) ?_
                      refine wa_cons ?_
                      refine we_ix ?_ (fun _ _ => rfl)
                      refine wv 10 rfl ?_
                      refine we_int ?_
                      refine ix_tup (j := 0) rfl rfl ?_
                      refine wa_cons ?_
                      refine we_ix ?_ (fun _ _ => rfl)
                      refine wv 14 rfl ?_
                      refine we_int ?_
                      refine ix_tup (j := 0) rfl rfl ?_
                      refine wa_nil ?_
                      intro l9
                      refine ⟨l9, v3, v7, b3, b7, _, rfl, rfl, qv3, qv7, fun w9 hw9 => ?_, fun hw9 fs9 => ?_⟩
                      · cases hw1.symm.trans hw9
                        exact ⟨_, _, rfl, w8, rfl, rfl, rfl, rfl⟩
                      · cases hw1.symm.trans hw9
                    rintro d9 M9 ⟨rfl, rfl⟩
                    refine wcf hDue (hr.mono (by decide)) ?_
                    refine wa_cons ?_
                    refine we_lst ?_
                    refine wa_cons ?_
                    refine we_str ?_
                    refine wa_cons ?_
                    refine we_str ?_
                    refine wa_nil ?_
                    refine ⟨(by walk_at "size"), ?_⟩
                    refine wa_cons ?_
                    refine we_lst ?_
                    refine wa_cons ?_
                    refine we_ix ?_ (fun _ _ => rfl)
                    refine wv 10 rfl ?_
                    refine we_int ?_
                    refine ix_tup (j := 1) rfl rfl ?_
                    refine wa_cons ?_
                    refine we_ix ?_ (fun _ _ => rfl)
                    refine wv 14 rfl ?_
                    refine we_int ?_
                    refine ix_tup (j := 1) rfl rfl ?_
                    refine wa_nil ?_
                    refine ⟨(by walk_at "size"), ?_⟩
                    refine wa_nil ?_
                    refine ⟨[("test", b3), ("rows", b7)], rfl, of_decide_eq_true rfl, ?_⟩
                    rw [hw1, show optW (some w8) = .str w8 from rfl]
                    refine od_neS ?_
                    rw [decide_eq_true rfl]
                    refine ⟨_, rfl, ?_⟩
                    refine ⟨fun hb => ?_, fun hb => ?_⟩
                    · walk_at "dead"
                    · walk_at "tidy"
                      refine ws_nil ?_
                      cases hw1 : firstW [("room", b4)] with
                      | none =>
                        refine ws_if ?_
                        refine wt_cmp ?_ (nomark _)
                        refine we_cut (Φ0 := fun d9 M9 => d9 = D.non ∧ M9 = dlT tb l l2 gs7 m7) (we_lam (k := 8) (hWord _ rfl rfl) 2 rfl dlT_tab TB hcd (hr.mono (by decide)) (fun A9 o9 s9 H9 E9 f9 c9 hr9 => ?_)) ?_
                        · skip
                          refine wxm hStop (hr9.mono (by decide)) ?_
                          refine wa_cons ?_
                          refine we_ix ?_ (fun _ _ => rfl)
                          refine wv 11 rfl ?_
                          refine we_int ?_
                          refine ix_tup (j := 0) rfl rfl ?_
                          refine wa_nil ?_
                          intro l9
                          refine ⟨l9, v4, b4, _, rfl, rfl, qv4, fun w9 hw9 => ?_, fun hw9 fs9 => ?_⟩
                          · cases hw1.symm.trans hw9
                          · exact ⟨rfl, fs9, _, rfl, rfl, rfl⟩
                        rintro d9 M9 ⟨rfl, rfl⟩
                        refine wcf hDue (hr.mono (by decide)) ?_
                        refine wa_cons ?_
                        refine we_lst ?_
                        refine wa_cons ?_
                        refine we_str ?_
                        refine wa_nil ?_
                        refine ⟨(by walk_at "size"), ?_⟩
                        refine wa_cons ?_
                        refine we_lst ?_
                        refine wa_cons ?_
                        refine we_ix ?_ (fun _ _ => rfl)
                        refine wv 11 rfl ?_
                        refine we_int ?_
                        refine ix_tup (j := 1) rfl rfl ?_
                        refine wa_nil ?_
                        refine ⟨(by walk_at "size"), ?_⟩
                        refine wa_nil ?_
                        refine ⟨[("room", b4)], rfl, of_decide_eq_true rfl, ?_⟩
                        rw [hw1, show optW none = D.non from rfl]
                        refine od_neSame hr.units rfl rfl ?_
                        refine ⟨_, rfl, ?_⟩
                        refine ⟨fun hb => ?_, fun hb => ?_⟩
                        · walk_at "dead"
                        · walk_at "tidy"
                          refine ws_nil ?_
                          refine ws_wk (Γ' := [some (.lst (ns.map .int)), some (.adr l), some (.obj c.go f1), some (.obj c.stop f2), some (.lst (seqS c f1 f2 f3)), some (.lst (badS c f1 f2)), none, none, none, none, none, none, none, none, none, none]) (M' := _) (by repeat (first | exact wkE | refine wkS ?_ | refine wkN ?_)) (List.Sublist.refl _) ?_
                          refine ws_nil ?_
                          exact ⟨rfl, _, _, hg7, rfl⟩
                      | some w8 =>
                        refine ws_if ?_
                        refine wt_cmp ?_ (nomark _)
                        refine we_cut (Φ0 := fun d9 M9 => d9 = .str w8 ∧ M9 = dlT tb l l2 gs7 m7) (we_lam (k := 8) (hWord _ rfl rfl) 2 rfl dlT_tab TB hcd (hr.mono (by decide)) (fun A9 o9 s9 H9 E9 f9 c9 hr9 => ?_)) ?_
                        · skip
                          refine wxm hStop (hr9.mono (by decide)) ?_
                          refine wa_cons ?_
                          refine we_ix ?_ (fun _ _ => rfl)
                          refine wv 11 rfl ?_
                          refine we_int ?_
                          refine ix_tup (j := 0) rfl rfl ?_
                          refine wa_nil ?_
                          intro l9
                          refine ⟨l9, v4, b4, _, rfl, rfl, qv4, fun w9 hw9 => ?_, fun hw9 fs9 => ?_⟩
                          · cases hw1.symm.trans hw9
                            exact ⟨_, _, rfl, w8, rfl, rfl, rfl, rfl⟩
                          · cases hw1.symm.trans hw9
                        rintro d9 M9 ⟨rfl, rfl⟩
                        refine wcf hDue (hr.mono (by decide)) ?_
                        refine wa_cons ?_
                        refine we_lst ?_
                        refine wa_cons ?_
                        refine we_str ?_
                        refine wa_nil ?_
                        refine ⟨(by walk_at "size"), ?_⟩
                        refine wa_cons ?_
                        refine we_lst ?_
                        refine wa_cons ?_
                        refine we_ix ?_ (fun _ _ => rfl)
                        refine wv 11 rfl ?_
                        refine we_int ?_
                        refine ix_tup (j := 1) rfl rfl ?_
                        refine wa_nil ?_
                        refine ⟨(by walk_at "size"), ?_⟩
                        refine wa_nil ?_
                        refine ⟨[("room", b4)], rfl, of_decide_eq_true rfl, ?_⟩
                        rw [hw1, show optW (some w8) = .str w8 from rfl]
                        refine od_neS ?_
                        rw [decide_eq_true rfl]
                        refine ⟨_, rfl, ?_⟩
                        refine ⟨fun hb => ?_, fun hb => ?_⟩
                        · walk_at "dead"
                        · walk_at "tidy"
                          refine ws_nil ?_
                          refine ws_wk (Γ' := [some (.lst (ns.map .int)), some (.adr l), some (.obj c.go f1), some (.obj c.stop f2), some (.lst (seqS c f1 f2 f3)), some (.lst (badS c f1 f2)), none, none, none, none, none, none, none, none, none, none]) (M' := _) (by repeat (first | exact wkE | refine wkS ?_ | refine wkN ?_)) (List.Sublist.refl _) ?_
                          refine ws_nil ?_
                          exact ⟨rfl, _, _, hg7, rfl⟩
          | some w8 =>
            refine ws_if ?_
            refine wt_cmp ?_ (nomark _)
            refine we_cut (Φ0 := fun d9 M9 => d9 = .str w8 ∧ M9 = dlT tb l l2 gs7 m7) (we_lam (k := 8) (hWord _ rfl rfl) 2 rfl dlT_tab TB hcd (hr.mono (by decide)) (fun A9 o9 s9 H9 E9 f9 c9 hr9 => ?_)) ?_
            · skip
              refine wxm hIf (hr9.mono (by decide)) ?_
              refine wa_cons ?_
              refine we_ix ?_ (fun _ _ => rfl)
              refine wv 10 rfl ?_
              refine we_int ?_
              refine ix_tup (j := 0) rfl rfl ?_
              refine wa_cons ?_
              refine we_ix ?_ (fun _ _ => rfl)
              refine wv 12 rfl ?_
              refine we_int ?_
              refine ix_tup (j := 0) rfl rfl ?_
              refine wa_cons ?_
              refine we_ix ?_ (fun _ _ => rfl)
              refine wv 13 rfl ?_
              refine we_int ?_
              refine ix_tup (j := 0) rfl rfl ?_
              refine wa_nil ?_
              intro l9
              refine ⟨l9, v3, v5, v6, b3, b5, b6, _, rfl, rfl, qv3, qv5, qv6, fun w9 hw9 => ?_, fun hw9 fs9 => ?_⟩
              · cases hw1.symm.trans hw9
                exact ⟨_, _, rfl, w8, rfl, rfl, rfl, rfl⟩
              · cases hw1.symm.trans hw9
            rintro d9 M9 ⟨rfl, rfl⟩
            refine wcf hDue (hr.mono (by decide)) ?_
            refine wa_cons ?_
            refine we_lst ?_
            refine wa_cons ?_
            refine we_str ?_
            refine wa_cons ?_
            refine we_str ?_
            refine wa_cons ?_
            refine we_str ?_
            refine wa_nil ?_
            refine ⟨(by walk_at "size"), ?_⟩
            refine wa_cons ?_
            refine wv 15 rfl ?_
            refine wa_nil ?_
            refine ⟨[("test", b3), ("rows", b5), ("others", b6)], rfl, of_decide_eq_true rfl, ?_⟩
            rw [hw1, show optW (some w8) = .str w8 from rfl]
            refine od_neS ?_
            rw [decide_eq_true rfl]
            refine ⟨_, rfl, ?_⟩
            refine ⟨fun hb => ?_, fun hb => ?_⟩
            · walk_at "dead"
            · walk_at "tidy"
              refine ws_nil ?_
              refine ws_set 15 sc_law.nd ?_
              refine we_lst ?_
              refine wa_cons ?_
              refine we_ix ?_ (fun _ _ => rfl)
              refine wv 11 rfl ?_
              refine we_int ?_
              refine ix_tup (j := 1) rfl rfl ?_
              refine wa_cons ?_
              refine we_ix ?_ (fun _ _ => rfl)
              refine wv 12 rfl ?_
              refine we_int ?_
              refine ix_tup (j := 1) rfl rfl ?_
              refine wa_cons ?_
              refine we_ix ?_ (fun _ _ => rfl)
              refine wv 13 rfl ?_
              refine we_int ?_
              refine ix_tup (j := 1) rfl rfl ?_
              refine wa_nil ?_
              refine ⟨(by walk_at "size"), ?_⟩
              cases hw1 : firstW [("mark", b4), ("rows", b5), ("others", b6)] with
              | none =>
                refine ws_if ?_
                refine wt_cmp ?_ (nomark _)
                refine we_cut (Φ0 := fun d9 M9 => d9 = D.non ∧ M9 = dlT tb l l2 gs7 m7) (we_lam (k := 8) (hWord _ rfl rfl) 2 rfl dlT_tab TB hcd (hr.mono (by decide)) (fun A9 o9 s9 H9 E9 f9 c9 hr9 => ?_)) ?_
                · skip
                  refine wxm hSee (hr9.mono (by decide)) ?_
                  refine wa_cons ?_
                  refine we_ix ?_ (fun _ _ => rfl)
                  refine wv 11 rfl ?_
                  refine we_int ?_
                  refine ix_tup (j := 0) rfl rfl ?_
                  refine wa_cons ?_
                  refine we_ix ?_ (fun _ _ => rfl)
                  refine wv 12 rfl ?_
                  refine we_int ?_
                  refine ix_tup (j := 0) rfl rfl ?_
                  refine wa_cons ?_
                  refine we_ix ?_ (fun _ _ => rfl)
                  refine wv 13 rfl ?_
                  refine we_int ?_
                  refine ix_tup (j := 0) rfl rfl ?_
                  refine wa_nil ?_
                  intro l9
                  refine ⟨l9, v4, v5, v6, b4, b5, b6, _, rfl, rfl, qv4, qv5, qv6, fun w9 hw9 => ?_, fun hw9 fs9 => ?_⟩
                  · cases hw1.symm.trans hw9
                  · exact ⟨rfl, fs9, _, rfl, rfl, rfl⟩
                rintro d9 M9 ⟨rfl, rfl⟩
                refine wcf hDue (hr.mono (by decide)) ?_
                refine wa_cons ?_
                refine we_lst ?_
                refine wa_cons ?_
                refine we_str ?_
                refine wa_cons ?_
                refine we_str ?_
                refine wa_cons ?_
                refine we_str ?_
                refine wa_nil ?_
                refine ⟨(by walk_at "size"), ?_⟩
                refine wa_cons ?_
                refine wv 15 rfl ?_
                refine wa_nil ?_
                refine ⟨[("mark", b4), ("rows", b5), ("others", b6)], rfl, of_decide_eq_true rfl, ?_⟩
                rw [hw1, show optW none = D.non from rfl]
                refine od_neSame hr.units rfl rfl ?_
                refine ⟨_, rfl, ?_⟩
                refine ⟨fun hb => ?_, fun hb => ?_⟩
                · walk_at "dead"
                · walk_at "tidy"
                  refine ws_nil ?_
                  cases hw1 : firstW [("test", b3), ("rows", b7)] with
                  | none =>
                    refine ws_if ?_
                    refine wt_cmp ?_ (nomark _)
                    refine we_cut (Φ0 := fun d9 M9 => d9 = D.non ∧ M9 = dlT tb l l2 gs7 m7) (we_lam (k := 8) (hWord _ rfl rfl) 2 rfl dlT_tab TB hcd (hr.mono (by decide)) (fun A9 o9 s9 H9 E9 f9 c9 hr9 => ?_)) ?_
                    · skip
                      refine wxm hWhi (hr9.mono (by decide)) ?_
                      refine wa_cons ?_
                      refine we_ix ?_ (fun _ _ => rfl)
                      refine wv 10 rfl ?_
                      refine we_int ?_
                      refine ix_tup (j := 0) rfl rfl ?_
                      refine wa_cons ?_
                      refine we_ix ?_ (fun _ _ => rfl)
                      refine wv 14 rfl ?_
                      refine we_int ?_
                      refine ix_tup (j := 0) rfl rfl ?_
                      refine wa_nil ?_
                      intro l9
                      refine ⟨l9, v3, v7, b3, b7, _, rfl, rfl, qv3, qv7, fun w9 hw9 => ?_, fun hw9 fs9 => ?_⟩
                      · cases hw1.symm.trans hw9
                      · exact ⟨rfl, fs9, _, rfl, rfl, rfl⟩
                    rintro d9 M9 ⟨rfl, rfl⟩
                    refine wcf hDue (hr.mono (by decide)) ?_
                    refine wa_cons ?_
                    refine we_lst ?_
                    refine wa_cons ?_
                    refine we_str ?_
                    refine wa_cons ?_
                    refine we_str ?_
                    refine wa_nil ?_
                    refine ⟨(by walk_at "size"), ?_⟩
                    refine wa_cons ?_
                    refine we_lst ?_
                    refine wa_cons ?_
                    refine we_ix ?_ (fun _ _ => rfl)
                    refine wv 10 rfl ?_
                    refine we_int ?_
                    refine ix_tup (j := 1) rfl rfl ?_
                    refine wa_cons ?_
                    refine we_ix ?_ (fun _ _ => rfl)
                    refine wv 14 rfl ?_
                    refine we_int ?_
                    refine ix_tup (j := 1) rfl rfl ?_
                    refine wa_nil ?_
                    refine ⟨(by walk_at "size"), ?_⟩
                    refine wa_nil ?_
                    refine ⟨[("test", b3), ("rows", b7)], rfl, of_decide_eq_true rfl, ?_⟩
                    rw [hw1, show optW none = D.non from rfl]
                    refine od_neSame hr.units rfl rfl ?_
                    refine ⟨_, rfl, ?_⟩
                    refine ⟨fun hb => ?_, fun hb => ?_⟩
                    · walk_at "dead"
                    · walk_at "tidy"
                      refine ws_nil ?_
                      cases hw1 : firstW [("room", b4)] with
                      | none =>
                        refine ws_if ?_
                        refine wt_cmp ?_ (nomark _)
                        refine we_cut (Φ0 := fun d9 M9 => d9 = D.non ∧ M9 = dlT tb l l2 gs7 m7) (we_lam (k := 8) (hWord _ rfl rfl) 2 rfl dlT_tab TB hcd (hr.mono (by decide)) (fun A9 o9 s9 H9 E9 f9 c9 hr9 => ?_)) ?_
                        · skip
                          refine wxm hStop (hr9.mono (by decide)) ?_
                          refine wa_cons ?_
                          refine we_ix ?_ (fun _ _ => rfl)
                          refine wv 11 rfl ?_
                          refine we_int ?_
                          refine ix_tup (j := 0) rfl rfl ?_
                          refine wa_nil ?_
                          intro l9
                          refine ⟨l9, v4, b4, _, rfl, rfl, qv4, fun w9 hw9 => ?_, fun hw9 fs9 => ?_⟩
                          · cases hw1.symm.trans hw9
                          · exact ⟨rfl, fs9, _, rfl, rfl, rfl⟩
                        rintro d9 M9 ⟨rfl, rfl⟩
                        refine wcf hDue (hr.mono (by decide)) ?_
                        refine wa_cons ?_
                        refine we_lst ?_
                        refine wa_cons ?_
                        refine we_str ?_
                        refine wa_nil ?_
                        refine ⟨(by walk_at "size"), ?_⟩
                        refine wa_cons ?_
                        refine we_lst ?_
                        refine wa_cons ?_
                        refine we_ix ?_ (fun _ _ => rfl)
                        refine wv 11 rfl ?_
                        refine we_int ?_
                        refine ix_tup (j := 1) rfl rfl ?_
                        refine wa_nil ?_
                        refine ⟨(by walk_at "size"), ?_⟩
                        refine wa_nil ?_
                        refine ⟨[("room", b4)], rfl, of_decide_eq_true rfl, ?_⟩
                        rw [hw1, show optW none = D.non from rfl]
                        refine od_neSame hr.units rfl rfl ?_
                        refine ⟨_, rfl, ?_⟩
                        refine ⟨fun hb => ?_, fun hb => ?_⟩
                        · walk_at "dead"
                        · walk_at "tidy"
                          refine ws_nil ?_
                          refine ws_wk (Γ' := [some (.lst (ns.map .int)), some (.adr l), some (.obj c.go f1), some (.obj c.stop f2), some (.lst (seqS c f1 f2 f3)), some (.lst (badS c f1 f2)), none, none, none, none, none, none, none, none, none, none]) (M' := _) (by repeat (first | exact wkE | refine wkS ?_ | refine wkN ?_)) (List.Sublist.refl _) ?_
                          refine ws_nil ?_
                          exact ⟨rfl, _, _, hg7, rfl⟩
                      | some w8 =>
                        refine ws_if ?_
                        refine wt_cmp ?_ (nomark _)
                        refine we_cut (Φ0 := fun d9 M9 => d9 = .str w8 ∧ M9 = dlT tb l l2 gs7 m7) (we_lam (k := 8) (hWord _ rfl rfl) 2 rfl dlT_tab TB hcd (hr.mono (by decide)) (fun A9 o9 s9 H9 E9 f9 c9 hr9 => ?_)) ?_
                        · skip
                          refine wxm hStop (hr9.mono (by decide)) ?_
                          refine wa_cons ?_
                          refine we_ix ?_ (fun _ _ => rfl)
                          refine wv 11 rfl ?_
                          refine we_int ?_
                          refine ix_tup (j := 0) rfl rfl ?_
                          refine wa_nil ?_
                          intro l9
                          refine ⟨l9, v4, b4, _, rfl, rfl, qv4, fun w9 hw9 => ?_, fun hw9 fs9 => ?_⟩
                          · cases hw1.symm.trans hw9
                            exact ⟨_, _, rfl, w8, rfl, rfl, rfl, rfl⟩
                          · cases hw1.symm.trans hw9
                        rintro d9 M9 ⟨rfl, rfl⟩
                        refine wcf hDue (hr.mono (by decide)) ?_
                        refine wa_cons ?_
                        refine we_lst ?_
                        refine wa_cons ?_
                        refine we_str ?_
                        refine wa_nil ?_
                        refine ⟨(by walk_at "size"), ?_⟩
                        refine wa_cons ?_
                        refine we_lst ?_
                        refine wa_cons ?_
                        refine we_ix ?_ (fun _ _ => rfl)
                        refine wv 11 rfl ?_
                        refine we_int ?_
                        refine ix_tup (j := 1) rfl rfl ?_
                        refine wa_nil ?_
                        refine ⟨(by walk_at "size"), ?_⟩
                        refine wa_nil ?_
                        refine ⟨[("room", b4)], rfl, of_decide_eq_true rfl, ?_⟩
                        rw [hw1, show optW (some w8) = .str w8 from rfl]
                        refine od_neS ?_
                        rw [decide_eq_true rfl]
                        refine ⟨_, rfl, ?_⟩
                        refine ⟨fun hb => ?_, fun hb => ?_⟩
                        · walk_at "dead"
                        · walk_at "tidy"
                          refine ws_nil ?_
                          refine ws_wk (Γ' := [some (.lst (ns.map .int)), some (.adr l), some (.obj c.go f1), some (.obj c.stop f2), some (.lst (seqS c f1 f2 f3)), some (.lst (badS c f1 f2)), none, none, none, none, none, none, none, none, none, none]) (M' := _) (by repeat (first | exact wkE | refine wkS ?_ | refine wkN ?_)) (List.Sublist.refl _) ?_
                          refine ws_nil ?_
                          exact ⟨rfl, _, _, hg7, rfl⟩
                  | some w8 =>
                    refine ws_if ?_
                    refine wt_cmp ?_ (nomark _)
                    refine we_cut (Φ0 := fun d9 M9 => d9 = .str w8 ∧ M9 = dlT tb l l2 gs7 m7) (we_lam (k := 8) (hWord _ rfl rfl) 2 rfl dlT_tab TB hcd (hr.mono (by decide)) (fun A9 o9 s9 H9 E9 f9 c9 hr9 => ?_)) ?_
                    · skip
                      refine wxm hWhi (hr9.mono (by decide)) ?_
                      refine wa_cons ?_
                      refine we_ix ?_ (fun _ _ => rfl)
                      refine wv 10 rfl ?_
                      refine we_int ?_
                      refine ix_tup (j := 0) rfl rfl ?_
                      refine wa_cons ?_
                      refine we_ix ?_ (fun _ _ => rfl)
                      refine wv 14 rfl ?_
                      refine we_int ?_
                      refine ix_tup (j := 0) rfl rfl ?_
                      refine wa_nil ?_
                      intro l9
                      refine ⟨l9, v3, v7, b3, b7, _, rfl, rfl, qv3, qv7, fun w9 hw9 => ?_, fun hw9 fs9 => ?_⟩
                      · cases hw1.symm.trans hw9
                        exact ⟨_, _, rfl, w8, rfl, rfl, rfl, rfl⟩
                      · cases hw1.symm.trans hw9
                    rintro d9 M9 ⟨rfl, rfl⟩
                    refine wcf hDue (hr.mono (by decide)) ?_
                    refine wa_cons ?_
                    refine we_lst ?_
                    refine wa_cons ?_
                    refine we_str ?_
                    refine wa_cons ?_
                    refine we_str ?_
                    refine wa_nil ?_
                    refine ⟨(by walk_at "size"), ?_⟩
                    refine wa_cons ?_
                    refine we_lst ?_
                    refine wa_cons ?_
                    refine we_ix ?_ (fun _ _ => rfl)
                    refine wv 10 rfl ?_
                    refine we_int ?_
                    refine ix_tup (j := 1) rfl rfl ?_
                    refine wa_cons ?_
                    refine we_ix ?_ (fun _ _ => rfl)
                    refine wv 14 rfl ?_
                    refine we_int ?_
                    refine ix_tup (j := 1) rfl rfl ?_
                    refine wa_nil ?_
                    refine ⟨(by walk_at "size"), ?_⟩
                    refine wa_nil ?_
                    refine ⟨[("test", b3), ("rows", b7)], rfl, of_decide_eq_true rfl, ?_⟩
                    rw [hw1, show optW (some w8) = .str w8 from rfl]
                    refine od_neS ?_
                    rw [decide_eq_true rfl]
                    refine ⟨_, rfl, ?_⟩
                    refine ⟨fun hb => ?_, fun hb => ?_⟩
                    · walk_at "dead"
                    · walk_at "tidy"
                      refine ws_nil ?_
                      cases hw1 : firstW [("room", b4)] with
                      | none =>
                        refine ws_if ?_
                        refine wt_cmp ?_ (nomark _)
                        refine we_cut (Φ0 := fun d9 M9 => d9 = D.non ∧ M9 = dlT tb l l2 gs7 m7) (we_lam (k := 8) (hWord _ rfl rfl) 2 rfl dlT_tab TB hcd (hr.mono (by decide)) (fun A9 o9 s9 H9 E9 f9 c9 hr9 => ?_)) ?_
                        · skip
                          refine wxm hStop (hr9.mono (by decide)) ?_
                          refine wa_cons ?_
                          refine we_ix ?_ (fun _ _ => rfl)
                          refine wv 11 rfl ?_
                          refine we_int ?_
                          refine ix_tup (j := 0) rfl rfl ?_
                          refine wa_nil ?_
                          intro l9
                          refine ⟨l9, v4, b4, _, rfl, rfl, qv4, fun w9 hw9 => ?_, fun hw9 fs9 => ?_⟩
                          · cases hw1.symm.trans hw9
                          · exact ⟨rfl, fs9, _, rfl, rfl, rfl⟩
                        rintro d9 M9 ⟨rfl, rfl⟩
                        refine wcf hDue (hr.mono (by decide)) ?_
                        refine wa_cons ?_
                        refine we_lst ?_
                        refine wa_cons ?_
                        refine we_str ?_
                        refine wa_nil ?_
                        refine ⟨(by walk_at "size"), ?_⟩
                        refine wa_cons ?_
                        refine we_lst ?_
                        refine wa_cons ?_
                        refine we_ix ?_ (fun _ _ => rfl)
                        refine wv 11 rfl ?_
                        refine we_int ?_
                        refine ix_tup (j := 1) rfl rfl ?_
                        refine wa_nil ?_
                        refine ⟨(by walk_at "size"), ?_⟩
                        refine wa_nil ?_
                        refine ⟨[("room", b4)], rfl, of_decide_eq_true rfl, ?_⟩
                        rw [hw1, show optW none = D.non from rfl]
                        refine od_neSame hr.units rfl rfl ?_
                        refine ⟨_, rfl, ?_⟩
                        refine ⟨fun hb => ?_, fun hb => ?_⟩
                        · walk_at "dead"
                        · walk_at "tidy"
                          refine ws_nil ?_
                          refine ws_wk (Γ' := [some (.lst (ns.map .int)), some (.adr l), some (.obj c.go f1), some (.obj c.stop f2), some (.lst (seqS c f1 f2 f3)), some (.lst (badS c f1 f2)), none, none, none, none, none, none, none, none, none, none]) (M' := _) (by repeat (first | exact wkE | refine wkS ?_ | refine wkN ?_)) (List.Sublist.refl _) ?_
                          refine ws_nil ?_
                          exact ⟨rfl, _, _, hg7, rfl⟩
                      | some w8 =>
                        refine ws_if ?_
                        refine wt_cmp ?_ (nomark _)
                        refine we_cut (Φ0 := fun d9 M9 => d9 = .str w8 ∧ M9 = dlT tb l l2 gs7 m7) (we_lam (k := 8) (hWord _ rfl rfl) 2 rfl dlT_tab TB hcd (hr.mono (by decide)) (fun A9 o9 s9 H9 E9 f9 c9 hr9 => ?_)) ?_
                        · skip
                          refine wxm hStop (hr9.mono (by decide)) ?_
                          refine wa_cons ?_
                          refine we_ix ?_ (fun _ _ => rfl)
                          refine wv 11 rfl ?_
                          refine we_int ?_
                          refine ix_tup (j := 0) rfl rfl ?_
                          refine wa_nil ?_
                          intro l9
                          refine ⟨l9, v4, b4, _, rfl, rfl, qv4, fun w9 hw9 => ?_, fun hw9 fs9 => ?_⟩
                          · cases hw1.symm.trans hw9
                            exact ⟨_, _, rfl, w8, rfl, rfl, rfl, rfl⟩
                          · cases hw1.symm.trans hw9
                        rintro d9 M9 ⟨rfl, rfl⟩
                        refine wcf hDue (hr.mono (by decide)) ?_
                        refine wa_cons ?_
                        refine we_lst ?_
                        refine wa_cons ?_
                        refine we_str ?_
                        refine wa_nil ?_
                        refine ⟨(by walk_at "size"), ?_⟩
                        refine wa_cons ?_
                        refine we_lst ?_
                        refine wa_cons ?_
                        refine we_ix ?_ (fun _ _ => rfl)
                        refine wv 11 rfl ?_
                        refine we_int ?_
                        refine ix_tup (j := 1) rfl rfl ?_
                        refine wa_nil ?_
                        refine ⟨(by walk_at "size"), ?_⟩
                        refine wa_nil ?_
                        refine ⟨[("room", b4)], rfl, of_decide_eq_true rfl, ?_⟩
                        rw [hw1, show optW (some w8) = .str w8 from rfl]
                        refine od_neS ?_
                        rw [decide_eq_true rfl]
                        refine ⟨_, rfl, ?_⟩
                        refine ⟨fun hb => ?_, fun hb => ?_⟩
                        · walk_at "dead"
                        · walk_at "tidy"
                          refine ws_nil ?_
                          refine ws_wk (Γ' := [some (.lst (ns.map .int)), some (.adr l), some (.obj c.go f1), some (.obj c.stop f2), some (.lst (seqS c f1 f2 f3)), some (.lst (badS c f1 f2)), none, none, none, none, none, none, none, none, none, none]) (M' := _) (by repeat (first | exact wkE | refine wkS ?_ | refine wkN ?_)) (List.Sublist.refl _) ?_
                          refine ws_nil ?_
                          exact ⟨rfl, _, _, hg7, rfl⟩
              | some w8 =>
                refine ws_if ?_
                refine wt_cmp ?_ (nomark _)
                refine we_cut (Φ0 := fun d9 M9 => d9 = .str w8 ∧ M9 = dlT tb l l2 gs7 m7) (we_lam (k := 8) (hWord _ rfl rfl) 2 rfl dlT_tab TB hcd (hr.mono (by decide)) (fun A9 o9 s9 H9 E9 f9 c9 hr9 => ?_)) ?_
                · skip
                  refine wxm hSee (hr9.mono (by decide)) ?_
                  refine wa_cons ?_
                  refine we_ix ?_ (fun _ _ => rfl)
                  refine wv 11 rfl ?_
                  refine we_int ?_
                  refine ix_tup (j := 0) rfl rfl ?_
                  refine wa_cons ?_
                  refine we_ix ?_ (fun _ _ => rfl)
                  refine wv 12 rfl ?_
                  refine we_int ?_
                  refine ix_tup (j := 0) rfl rfl ?_
                  refine wa_cons ?_
                  refine we_ix ?_ (fun _ _ => rfl)
                  refine wv 13 rfl ?_
                  refine we_int ?_
                  refine ix_tup (j := 0) rfl rfl ?_
                  refine wa_nil ?_
                  intro l9
                  refine ⟨l9, v4, v5, v6, b4, b5, b6, _, rfl, rfl, qv4, qv5, qv6, fun w9 hw9 => ?_, fun hw9 fs9 => ?_⟩
                  · cases hw1.symm.trans hw9
                    exact ⟨_, _, rfl, w8, rfl, rfl, rfl, rfl⟩
                  · cases hw1.symm.trans hw9
                rintro d9 M9 ⟨rfl, rfl⟩
                refine wcf hDue (hr.mono (by decide)) ?_
                refine wa_cons ?_
                refine we_lst ?_
                refine wa_cons ?_
                refine we_str ?_
                refine wa_cons ?_
                refine we_str ?_
                refine wa_cons ?_
                refine we_str ?_
                refine wa_nil ?_
                refine ⟨(by walk_at "size"), ?_⟩
                refine wa_cons ?_
                refine wv 15 rfl ?_
                refine wa_nil ?_
                refine ⟨[("mark", b4), ("rows", b5), ("others", b6)], rfl, of_decide_eq_true rfl, ?_⟩
                rw [hw1, show optW (some w8) = .str w8 from rfl]
                refine od_neS ?_
                rw [decide_eq_true rfl]
                refine ⟨_, rfl, ?_⟩
                refine ⟨fun hb => ?_, fun hb => ?_⟩
                · walk_at "dead"
                · walk_at "tidy"
                  refine ws_nil ?_
                  cases hw1 : firstW [("test", b3), ("rows", b7)] with
                  | none =>
                    refine ws_if ?_
                    refine wt_cmp ?_ (nomark _)
                    refine we_cut (Φ0 := fun d9 M9 => d9 = D.non ∧ M9 = dlT tb l l2 gs7 m7) (we_lam (k := 8) (hWord _ rfl rfl) 2 rfl dlT_tab TB hcd (hr.mono (by decide)) (fun A9 o9 s9 H9 E9 f9 c9 hr9 => ?_)) ?_
                    · skip
                      refine wxm hWhi (hr9.mono (by decide)) ?_
                      refine wa_cons ?_
                      refine we_ix ?_ (fun _ _ => rfl)
                      refine wv 10 rfl ?_
                      refine we_int ?_
                      refine ix_tup (j := 0) rfl rfl ?_
                      refine wa_cons ?_
                      refine we_ix ?_ (fun _ _ => rfl)
                      refine wv 14 rfl ?_
                      refine we_int ?_
                      refine ix_tup (j := 0) rfl rfl ?_
                      refine wa_nil ?_
                      intro l9
                      refine ⟨l9, v3, v7, b3, b7, _, rfl, rfl, qv3, qv7, fun w9 hw9 => ?_, fun hw9 fs9 => ?_⟩
                      · cases hw1.symm.trans hw9
                      · exact ⟨rfl, fs9, _, rfl, rfl, rfl⟩
                    rintro d9 M9 ⟨rfl, rfl⟩
                    refine wcf hDue (hr.mono (by decide)) ?_
                    refine wa_cons ?_
                    refine we_lst ?_
                    refine wa_cons ?_
                    refine we_str ?_
                    refine wa_cons ?_
                    refine we_str ?_
                    refine wa_nil ?_
                    refine ⟨(by walk_at "size"), ?_⟩
                    refine wa_cons ?_
                    refine we_lst ?_
                    refine wa_cons ?_
                    refine we_ix ?_ (fun _ _ => rfl)
                    refine wv 10 rfl ?_
                    refine we_int ?_
                    refine ix_tup (j := 1) rfl rfl ?_
                    refine wa_cons ?_
                    refine we_ix ?_ (fun _ _ => rfl)
                    refine wv 14 rfl ?_
                    refine we_int ?_
                    refine ix_tup (j := 1) rfl rfl ?_
                    refine wa_nil ?_
                    refine ⟨(by walk_at "size"), ?_⟩
                    refine wa_nil ?_
                    refine ⟨[("test", b3), ("rows", b7)], rfl, of_decide_eq_true rfl, ?_⟩
                    rw [hw1, show optW none = D.non from rfl]
                    refine od_neSame hr.units rfl rfl ?_
                    refine ⟨_, rfl, ?_⟩
                    refine ⟨fun hb => ?_, fun hb => ?_⟩
                    · walk_at "dead"
                    · walk_at "tidy"
                      refine ws_nil ?_
                      cases hw1 : firstW [("room", b4)] with
                      | none =>
                        refine ws_if ?_
                        refine wt_cmp ?_ (nomark _)
                        refine we_cut (Φ0 := fun d9 M9 => d9 = D.non ∧ M9 = dlT tb l l2 gs7 m7) (we_lam (k := 8) (hWord _ rfl rfl) 2 rfl dlT_tab TB hcd (hr.mono (by decide)) (fun A9 o9 s9 H9 E9 f9 c9 hr9 => ?_)) ?_
                        · skip
                          refine wxm hStop (hr9.mono (by decide)) ?_
                          refine wa_cons ?_
                          refine we_ix ?_ (fun _ _ => rfl)
                          refine wv 11 rfl ?_
                          refine we_int ?_
                          refine ix_tup (j := 0) rfl rfl ?_
                          refine wa_nil ?_
                          intro l9
                          refine ⟨l9, v4, b4, _, rfl, rfl, qv4, fun w9 hw9 => ?_, fun hw9 fs9 => ?_⟩
                          · cases hw1.symm.trans hw9
                          · exact ⟨rfl, fs9, _, rfl, rfl, rfl⟩
                        rintro d9 M9 ⟨rfl, rfl⟩
                        refine wcf hDue (hr.mono (by decide)) ?_
                        refine wa_cons ?_
                        refine we_lst ?_
                        refine wa_cons ?_
                        refine we_str ?_
                        refine wa_nil ?_
                        refine ⟨(by walk_at "size"), ?_⟩
                        refine wa_cons ?_
                        refine we_lst ?_
                        refine wa_cons ?_
                        refine we_ix ?_ (fun _ _ => rfl)
                        refine wv 11 rfl ?_
                        refine we_int ?_
                        refine ix_tup (j := 1) rfl rfl ?_
                        refine wa_nil ?_
                        refine ⟨(by walk_at "size"), ?_⟩
                        refine wa_nil ?_
                        refine ⟨[("room", b4)], rfl, of_decide_eq_true rfl, ?_⟩
                        rw [hw1, show optW none = D.non from rfl]
                        refine od_neSame hr.units rfl rfl ?_
                        refine ⟨_, rfl, ?_⟩
                        refine ⟨fun hb => ?_, fun hb => ?_⟩
                        · walk_at "dead"
                        · walk_at "tidy"
                          refine ws_nil ?_
                          refine ws_wk (Γ' := [some (.lst (ns.map .int)), some (.adr l), some (.obj c.go f1), some (.obj c.stop f2), some (.lst (seqS c f1 f2 f3)), some (.lst (badS c f1 f2)), none, none, none, none, none, none, none, none, none, none]) (M' := _) (by repeat (first | exact wkE | refine wkS ?_ | refine wkN ?_)) (List.Sublist.refl _) ?_
                          refine ws_nil ?_
                          exact ⟨rfl, _, _, hg7, rfl⟩
                      | some w8 =>
                        refine ws_if ?_
                        refine wt_cmp ?_ (nomark _)
                        refine we_cut (Φ0 := fun d9 M9 => d9 = .str w8 ∧ M9 = dlT tb l l2 gs7 m7) (we_lam (k := 8) (hWord _ rfl rfl) 2 rfl dlT_tab TB hcd (hr.mono (by decide)) (fun A9 o9 s9 H9 E9 f9 c9 hr9 => ?_)) ?_
                        · skip
                          refine wxm hStop (hr9.mono (by decide)) ?_
                          refine wa_cons ?_
                          refine we_ix ?_ (fun _ _ => rfl)
                          refine wv 11 rfl ?_
                          refine we_int ?_
                          refine ix_tup (j := 0) rfl rfl ?_
                          refine wa_nil ?_
                          intro l9
                          refine ⟨l9, v4, b4, _, rfl, rfl, qv4, fun w9 hw9 => ?_, fun hw9 fs9 => ?_⟩
                          · cases hw1.symm.trans hw9
                            exact ⟨_, _, rfl, w8, rfl, rfl, rfl, rfl⟩
                          · cases hw1.symm.trans hw9
                        rintro d9 M9 ⟨rfl, rfl⟩
                        refine wcf hDue (hr.mono (by decide)) ?_
                        refine wa_cons ?_
                        refine we_lst ?_
                        refine wa_cons ?_
                        refine we_str ?_
                        refine wa_nil ?_
                        refine ⟨(by walk_at "size"), ?_⟩
                        refine wa_cons ?_
                        refine we_lst ?_
                        refine wa_cons ?_
                        refine we_ix ?_ (fun _ _ => rfl)
                        refine wv 11 rfl ?_
                        refine we_int ?_
                        refine ix_tup (j := 1) rfl rfl ?_
                        refine wa_nil ?_
                        refine ⟨(by walk_at "size"), ?_⟩
                        refine wa_nil ?_
                        refine ⟨[("room", b4)], rfl, of_decide_eq_true rfl, ?_⟩
                        rw [hw1, show optW (some w8) = .str w8 from rfl]
                        refine od_neS ?_
                        rw [decide_eq_true rfl]
                        refine ⟨_, rfl, ?_⟩
                        refine ⟨fun hb => ?_, fun hb => ?_⟩
                        · walk_at "dead"
                        · walk_at "tidy"
                          refine ws_nil ?_
                          refine ws_wk (Γ' := [some (.lst (ns.map .int)), some (.adr l), some (.obj c.go f1), some (.obj c.stop f2), some (.lst (seqS c f1 f2 f3)), some (.lst (badS c f1 f2)), none, none, none, none, none, none, none, none, none, none]) (M' := _) (by repeat (first | exact wkE | refine wkS ?_ | refine wkN ?_)) (List.Sublist.refl _) ?_
                          refine ws_nil ?_
                          exact ⟨rfl, _, _, hg7, rfl⟩
                  | some w8 =>
                    refine ws_if ?_
                    refine wt_cmp ?_ (nomark _)
                    refine we_cut (Φ0 := fun d9 M9 => d9 = .str w8 ∧ M9 = dlT tb l l2 gs7 m7) (we_lam (k := 8) (hWord _ rfl rfl) 2 rfl dlT_tab TB hcd (hr.mono (by decide)) (fun A9 o9 s9 H9 E9 f9 c9 hr9 => ?_)) ?_
                    · skip
                      refine wxm hWhi (hr9.mono (by decide)) ?_
                      refine wa_cons ?_
                      refine we_ix ?_ (fun _ _ => rfl)
                      refine wv 10 rfl ?_
                      refine we_int ?_
                      refine ix_tup (j := 0) rfl rfl ?_
                      refine wa_cons ?_
                      refine we_ix ?_ (fun _ _ => rfl)
                      refine wv 14 rfl ?_
                      refine we_int ?_
                      refine ix_tup (j := 0) rfl rfl ?_
                      refine wa_nil ?_
                      intro l9
                      refine ⟨l9, v3, v7, b3, b7, _, rfl, rfl, qv3, qv7, fun w9 hw9 => ?_, fun hw9 fs9 => ?_⟩
                      · cases hw1.symm.trans hw9
                        exact ⟨_, _, rfl, w8, rfl, rfl, rfl, rfl⟩
                      · cases hw1.symm.trans hw9
                    rintro d9 M9 ⟨rfl, rfl⟩
                    refine wcf hDue (hr.mono (by decide)) ?_
                    refine wa_cons ?_
                    refine we_lst ?_
                    refine wa_cons ?_
                    refine we_str ?_
                    refine wa_cons ?_
                    refine we_str ?_
                    refine wa_nil ?_
                    refine ⟨(by walk_at "size"), ?_⟩
                    refine wa_cons ?_
                    refine we_lst ?_
                    refine wa_cons ?_
                    refine we_ix ?_ (fun _ _ => rfl)
                    refine wv 10 rfl ?_
                    refine we_int ?_
                    refine ix_tup (j := 1) rfl rfl ?_
                    refine wa_cons ?_
                    refine we_ix ?_ (fun _ _ => rfl)
                    refine wv 14 rfl ?_
                    refine we_int ?_
                    refine ix_tup (j := 1) rfl rfl ?_
                    refine wa_nil ?_
                    refine ⟨(by walk_at "size"), ?_⟩
                    refine wa_nil ?_
                    refine ⟨[("test", b3), ("rows", b7)], rfl, of_decide_eq_true rfl, ?_⟩
                    rw [hw1, show optW (some w8) = .str w8 from rfl]
                    refine od_neS ?_
                    rw [decide_eq_true rfl]
                    refine ⟨_, rfl, ?_⟩
                    refine ⟨fun hb => ?_, fun hb => ?_⟩
                    · walk_at "dead"
                    · walk_at "tidy"
                      refine ws_nil ?_
                      cases hw1 : firstW [("room", b4)] with
                      | none =>
                        refine ws_if ?_
                        refine wt_cmp ?_ (nomark _)
                        refine we_cut (Φ0 := fun d9 M9 => d9 = D.non ∧ M9 = dlT tb l l2 gs7 m7) (we_lam (k := 8) (hWord _ rfl rfl) 2 rfl dlT_tab TB hcd (hr.mono (by decide)) (fun A9 o9 s9 H9 E9 f9 c9 hr9 => ?_)) ?_
                        · skip
                          refine wxm hStop (hr9.mono (by decide)) ?_
                          refine wa_cons ?_
                          refine we_ix ?_ (fun _ _ => rfl)
                          refine wv 11 rfl ?_
                          refine we_int ?_
                          refine ix_tup (j := 0) rfl rfl ?_
                          refine wa_nil ?_
                          intro l9
                          refine ⟨l9, v4, b4, _, rfl, rfl, qv4, fun w9 hw9 => ?_, fun hw9 fs9 => ?_⟩
                          · cases hw1.symm.trans hw9
                          · exact ⟨rfl, fs9, _, rfl, rfl, rfl⟩
                        rintro d9 M9 ⟨rfl, rfl⟩
                        refine wcf hDue (hr.mono (by decide)) ?_
                        refine wa_cons ?_
                        refine we_lst ?_
                        refine wa_cons ?_
                        refine we_str ?_
                        refine wa_nil ?_
                        refine ⟨(by walk_at "size"), ?_⟩
                        refine wa_cons ?_
                        refine we_lst ?_
                        refine wa_cons ?_
                        refine we_ix ?_ (fun _ _ => rfl)
                        refine wv 11 rfl ?_
                        refine we_int ?_
                        refine ix_tup (j := 1) rfl rfl ?_
                        refine wa_nil ?_
                        refine ⟨(by walk_at "size"), ?_⟩
                        refine wa_nil ?_
                        refine ⟨[("room", b4)], rfl, of_decide_eq_true rfl, ?_⟩
                        rw [hw1, show optW none = D.non from rfl]
                        refine od_neSame hr.units rfl rfl ?_
                        refine ⟨_, rfl, ?_⟩
                        refine ⟨fun hb => ?_, fun hb => ?_⟩
                        · walk_at "dead"
                        · walk_at "tidy"
                          refine ws_nil ?_
                          refine ws_wk (Γ' := [some (.lst (ns.map .int)), some (.adr l), some (.obj c.go f1), some (.obj c.stop f2), some (.lst (seqS c f1 f2 f3)), some (.lst (badS c f1 f2)), none, none, none, none, none, none, none, none, none, none]) (M' := _) (by repeat (first | exact wkE | refine wkS ?_ | refine wkN ?_)) (List.Sublist.refl _) ?_
                          refine ws_nil ?_
                          exact ⟨rfl, _, _, hg7, rfl⟩
                      | some w8 =>
                        refine ws_if ?_
                        refine wt_cmp ?_ (nomark _)
                        refine we_cut (Φ0 := fun d9 M9 => d9 = .str w8 ∧ M9 = dlT tb l l2 gs7 m7) (we_lam (k := 8) (hWord _ rfl rfl) 2 rfl dlT_tab TB hcd (hr.mono (by decide)) (fun A9 o9 s9 H9 E9 f9 c9 hr9 => ?_)) ?_
                        · skip
                          refine wxm hStop (hr9.mono (by decide)) ?_
                          refine wa_cons ?_
                          refine we_ix ?_ (fun _ _ => rfl)
                          refine wv 11 rfl ?_
                          refine we_int ?_
                          refine ix_tup (j := 0) rfl rfl ?_
                          refine wa_nil ?_
                          intro l9
                          refine ⟨l9, v4, b4, _, rfl, rfl, qv4, fun w9 hw9 => ?_, fun hw9 fs9 => ?_⟩
                          · cases hw1.symm.trans hw9
                            exact ⟨_, _, rfl, w8, rfl, rfl, rfl, rfl⟩
                          · cases hw1.symm.trans hw9
                        rintro d9 M9 ⟨rfl, rfl⟩
                        refine wcf hDue (hr.mono (by decide)) ?_
                        refine wa_cons ?_
                        refine we_lst ?_
                        refine wa_cons ?_
                        refine we_str ?_
                        refine wa_nil ?_
                        refine ⟨(by walk_at "size"), ?_⟩
                        refine wa_cons ?_
                        refine we_lst ?_
                        refine wa_cons ?_
                        refine we_ix ?_ (fun _ _ => rfl)
                        refine wv 11 rfl ?_
                        refine we_int ?_
                        refine ix_tup (j := 1) rfl rfl ?_
                        refine wa_nil ?_
                        refine ⟨(by walk_at "size"), ?_⟩
                        refine wa_nil ?_
                        refine ⟨[("room", b4)], rfl, of_decide_eq_true rfl, ?_⟩
                        rw [hw1, show optW (some w8) = .str w8 from rfl]
                        refine od_neS ?_
                        rw [decide_eq_true rfl]
                        refine ⟨_, rfl, ?_⟩
                        refine ⟨fun hb => ?_, fun hb => ?_⟩
                        · walk_at "dead"
                        · walk_at "tidy"
                          refine ws_nil ?_
                          refine ws_wk (Γ' := [some (.lst (ns.map .int)), some (.adr l), some (.obj c.go f1), some (.obj c.stop f2), some (.lst (seqS c f1 f2 f3)), some (.lst (badS c f1 f2)), none, none, none, none, none, none, none, none, none, none]) (M' := _) (by repeat (first | exact wkE | refine wkS ?_ | refine wkN ?_)) (List.Sublist.refl _) ?_
                          refine ws_nil ?_
                          exact ⟨rfl, _, _, hg7, rfl⟩
      | some w8 =>
        refine ws_if ?_
        refine wt_cmp ?_ (nomark _)
        refine we_cut (Φ0 := fun d9 M9 => d9 = .str w8 ∧ M9 = dlT tb l l2 gs7 m7) (we_lam (k := 8) (hWord _ rfl rfl) 2 rfl dlT_tab TB hcd (hr.mono (by decide)) (fun A9 o9 s9 H9 E9 f9 c9 hr9 => ?_)) ?_
        · skip
          refine wxm hGo (hr9.mono (by decide)) ?_
          refine wa_cons ?_
          refine we_ix ?_ (fun _ _ => rfl)
          refine wv 7 rfl ?_
          refine we_int ?_
          refine ix_tup (j := 0) rfl rfl ?_
          refine wa_cons ?_
          refine we_ix ?_ (fun _ _ => rfl)
          refine wv 8 rfl ?_
          refine we_int ?_
          refine ix_tup (j := 0) rfl rfl ?_
          refine wa_nil ?_
          intro l9
          refine ⟨l9, v1, v2, b1, b2, _, rfl, rfl, qv1, qv2, fun w9 hw9 => ?_, fun hw9 fs9 => ?_⟩
          · cases hw1.symm.trans hw9
            exact ⟨_, _, rfl, w8, rfl, rfl, rfl, rfl⟩
          · cases hw1.symm.trans hw9
        rintro d9 M9 ⟨rfl, rfl⟩
        refine wcf hDue (hr.mono (by decide)) ?_
        refine wa_cons ?_
        refine we_lst ?_
        refine wa_cons ?_
        refine we_str ?_
        refine wa_cons ?_
        refine we_str ?_
        refine wa_nil ?_
        refine ⟨(by walk_at "size"), ?_⟩
        refine wa_cons ?_
        refine we_lst ?_
        refine wa_cons ?_
        refine we_ix ?_ (fun _ _ => rfl)
        refine wv 7 rfl ?_
        refine we_int ?_
        refine ix_tup (j := 1) rfl rfl ?_
        refine wa_cons ?_
        refine we_ix ?_ (fun _ _ => rfl)
        refine wv 8 rfl ?_
        refine we_int ?_
        refine ix_tup (j := 1) rfl rfl ?_
        refine wa_nil ?_
        refine ⟨(by walk_at "size"), ?_⟩
        refine wa_nil ?_
        refine ⟨[("way", b1), ("steps", b2)], rfl, of_decide_eq_true rfl, ?_⟩
        rw [hw1, show optW (some w8) = .str w8 from rfl]
        refine od_neS ?_
        rw [decide_eq_true rfl]
        refine ⟨_, rfl, ?_⟩
        refine ⟨fun hb => ?_, fun hb => ?_⟩
        · walk_at "dead"
        · walk_at "tidy"
          refine ws_nil ?_
          refine ws_set 15 sc_law.nd ?_
          refine we_lst ?_
          refine wa_cons ?_
          refine we_ix ?_ (fun _ _ => rfl)
          refine wv 10 rfl ?_
          refine we_int ?_
          refine ix_tup (j := 1) rfl rfl ?_
          refine wa_cons ?_
          refine we_ix ?_ (fun _ _ => rfl)
          refine wv 12 rfl ?_
          refine we_int ?_
          refine ix_tup (j := 1) rfl rfl ?_
          refine wa_cons ?_
          refine we_ix ?_ (fun _ _ => rfl)
          refine wv 13 rfl ?_
          refine we_int ?_
          refine ix_tup (j := 1) rfl rfl ?_
          refine wa_nil ?_
          refine ⟨(by walk_at "size"), ?_⟩
          cases hw1 : firstW [("test", b3), ("rows", b5), ("others", b6)] with
          | none =>
            refine ws_if ?_
            refine wt_cmp ?_ (nomark _)
            refine we_cut (Φ0 := fun d9 M9 => d9 = D.non ∧ M9 = dlT tb l l2 gs7 m7) (we_lam (k := 8) (hWord _ rfl rfl) 2 rfl dlT_tab TB hcd (hr.mono (by decide)) (fun A9 o9 s9 H9 E9 f9 c9 hr9 => ?_)) ?_
            · skip
              refine wxm hIf (hr9.mono (by decide)) ?_
              refine wa_cons ?_
              refine we_ix ?_ (fun _ _ => rfl)
              refine wv 10 rfl ?_
              refine we_int ?_
              refine ix_tup (j := 0) rfl rfl ?_
              refine wa_cons ?_
              refine we_ix ?_ (fun _ _ => rfl)
              refine wv 12 rfl ?_
              refine we_int ?_
              refine ix_tup (j := 0) rfl rfl ?_
              refine wa_cons ?_
              refine we_ix ?_ (fun _ _ => rfl)
              refine wv 13 rfl ?_
              refine we_int ?_
              refine ix_tup (j := 0) rfl rfl ?_
              refine wa_nil ?_
              intro l9
              refine ⟨l9, v3, v5, v6, b3, b5, b6, _, rfl, rfl, qv3, qv5, qv6, fun w9 hw9 => ?_, fun hw9 fs9 => ?_⟩
              · cases hw1.symm.trans hw9
              · exact ⟨rfl, fs9, _, rfl, rfl, rfl⟩
            rintro d9 M9 ⟨rfl, rfl⟩
            refine wcf hDue (hr.mono (by decide)) ?_
            refine wa_cons ?_
            refine we_lst ?_
            refine wa_cons ?_
            refine we_str ?_
            refine wa_cons ?_
            refine we_str ?_
            refine wa_cons ?_
            refine we_str ?_
            refine wa_nil ?_
            refine ⟨(by walk_at "size"), ?_⟩
            refine wa_cons ?_
            refine wv 15 rfl ?_
            refine wa_nil ?_
            refine ⟨[("test", b3), ("rows", b5), ("others", b6)], rfl, of_decide_eq_true rfl, ?_⟩
            rw [hw1, show optW none = D.non from rfl]
            refine od_neSame hr.units rfl rfl ?_
            refine ⟨_, rfl, ?_⟩
            refine ⟨fun hb => ?_, fun hb => ?_⟩
            · walk_at "dead"
            · walk_at "tidy"
              refine ws_nil ?_
              refine ws_set 15 sc_law.nd ?_
              refine we_lst ?_
              refine wa_cons ?_
              refine we_ix ?_ (fun _ _ => rfl)
              refine wv 11 rfl ?_
              refine we_int ?_
              refine ix_tup (j := 1) rfl rfl ?_
              refine wa_cons ?_
              refine we_ix ?_ (fun _ _ => rfl)
              refine wv 12 rfl ?_
              refine we_int ?_
              refine ix_tup (j := 1) rfl rfl ?_
              refine wa_cons ?_
              refine we_ix ?_ (fun _ _ => rfl)
              refine wv 13 rfl ?_
              refine we_int ?_
              refine ix_tup (j := 1) rfl rfl ?_
              refine wa_nil ?_
              refine ⟨(by walk_at "size"), ?_⟩
              cases hw1 : firstW [("mark", b4), ("rows", b5), ("others", b6)] with
              | none =>
                refine ws_if ?_
                refine wt_cmp ?_ (nomark _)
                refine we_cut (Φ0 := fun d9 M9 => d9 = D.non ∧ M9 = dlT tb l l2 gs7 m7) (we_lam (k := 8) (hWord _ rfl rfl) 2 rfl dlT_tab TB hcd (hr.mono (by decide)) (fun A9 o9 s9 H9 E9 f9 c9 hr9 => ?_)) ?_
                · skip
                  refine wxm hSee (hr9.mono (by decide)) ?_
                  refine wa_cons ?_
                  refine we_ix ?_ (fun _ _ => rfl)
                  refine wv 11 rfl ?_
                  refine we_int ?_
                  refine ix_tup (j := 0) rfl rfl ?_
                  refine wa_cons ?_
                  refine we_ix ?_ (fun _ _ => rfl)
                  refine wv 12 rfl ?_
                  refine we_int ?_
                  refine ix_tup (j := 0) rfl rfl ?_
                  refine wa_cons ?_
                  refine we_ix ?_ (fun _ _ => rfl)
                  refine wv 13 rfl ?_
                  refine we_int ?_
                  refine ix_tup (j := 0) rfl rfl ?_
                  refine wa_nil ?_
                  intro l9
                  refine ⟨l9, v4, v5, v6, b4, b5, b6, _, rfl, rfl, qv4, qv5, qv6, fun w9 hw9 => ?_, fun hw9 fs9 => ?_⟩
                  · cases hw1.symm.trans hw9
                  · exact ⟨rfl, fs9, _, rfl, rfl, rfl⟩
                rintro d9 M9 ⟨rfl, rfl⟩
                refine wcf hDue (hr.mono (by decide)) ?_
                refine wa_cons ?_
                refine we_lst ?_
                refine wa_cons ?_
                refine we_str ?_
                refine wa_cons ?_
                refine we_str ?_
                refine wa_cons ?_
                refine we_str ?_
                refine wa_nil ?_
                refine ⟨(by walk_at "size"), ?_⟩
                refine wa_cons ?_
                refine wv 15 rfl ?_
                refine wa_nil ?_
                refine ⟨[("mark", b4), ("rows", b5), ("others", b6)], rfl, of_decide_eq_true rfl, ?_⟩
                rw [hw1, show optW none = D.non from rfl]
                refine od_neSame hr.units rfl rfl ?_
                refine ⟨_, rfl, ?_⟩
                refine ⟨fun hb => ?_, fun hb => ?_⟩
                · walk_at "dead"
                · walk_at "tidy"
                  refine ws_nil ?_
                  cases hw1 : firstW [("test", b3), ("rows", b7)] with
                  | none =>
                    refine ws_if ?_
                    refine wt_cmp ?_ (nomark _)
                    refine we_cut (Φ0 := fun d9 M9 => d9 = D.non ∧ M9 = dlT tb l l2 gs7 m7) (we_lam (k := 8) (hWord _ rfl rfl) 2 rfl dlT_tab TB hcd (hr.mono (by decide)) (fun A9 o9 s9 H9 E9 f9 c9 hr9 => ?_)) ?_
                    · skip
                      refine wxm hWhi (hr9.mono (by decide)) ?_
                      refine wa_cons ?_
                      refine we_ix ?_ (fun _ _ => rfl)
                      refine wv 10 rfl ?_
                      refine we_int ?_
                      refine ix_tup (j := 0) rfl rfl ?_
                      refine wa_cons ?_
                      refine we_ix ?_ (fun _ _ => rfl)
                      refine wv 14 rfl ?_
                      refine we_int ?_
                      refine ix_tup (j := 0) rfl rfl ?_
                      refine wa_nil ?_
                      intro l9
                      refine ⟨l9, v3, v7, b3, b7, _, rfl, rfl, qv3, qv7, fun w9 hw9 => ?_, fun hw9 fs9 => ?_⟩
                      · cases hw1.symm.trans hw9
                      · exact ⟨rfl, fs9, _, rfl, rfl, rfl⟩
                    rintro d9 M9 ⟨rfl, rfl⟩
                    refine wcf hDue (hr.mono (by decide)) ?_
                    refine wa_cons ?_
                    refine we_lst ?_
                    refine wa_cons ?_
                    refine we_str ?_
                    refine wa_cons ?_
                    refine we_str ?_
                    refine wa_nil ?_
                    refine ⟨(by walk_at "size"), ?_⟩
                    refine wa_cons ?_
                    refine we_lst ?_
                    refine wa_cons ?_
                    refine we_ix ?_ (fun _ _ => rfl)
                    refine wv 10 rfl ?_
                    refine we_int ?_
                    refine ix_tup (j := 1) rfl rfl ?_
                    refine wa_cons ?_
                    refine we_ix ?_ (fun _ _ => rfl)
                    refine wv 14 rfl ?_
                    refine we_int ?_
                    refine ix_tup (j := 1) rfl rfl ?_
                    refine wa_nil ?_
                    refine ⟨(by walk_at "size"), ?_⟩
                    refine wa_nil ?_
                    refine ⟨[("test", b3), ("rows", b7)], rfl, of_decide_eq_true rfl, ?_⟩
                    rw [hw1, show optW none = D.non from rfl]
                    refine od_neSame hr.units rfl rfl ?_
                    refine ⟨_, rfl, ?_⟩
                    refine ⟨fun hb => ?_, fun hb => ?_⟩
                    · walk_at "dead"
                    · walk_at "tidy"
                      refine ws_nil ?_
                      cases hw1 : firstW [("room", b4)] with
                      | none =>
                        refine ws_if ?_
                        refine wt_cmp ?_ (nomark _)
                        refine we_cut (Φ0 := fun d9 M9 => d9 = D.non ∧ M9 = dlT tb l l2 gs7 m7) (we_lam (k := 8) (hWord _ rfl rfl) 2 rfl dlT_tab TB hcd (hr.mono (by decide)) (fun A9 o9 s9 H9 E9 f9 c9 hr9 => ?_)) ?_
                        · skip
                          refine wxm hStop (hr9.mono (by decide)) ?_
                          refine wa_cons ?_
                          refine we_ix ?_ (fun _ _ => rfl)
                          refine wv 11 rfl ?_
                          refine we_int ?_
                          refine ix_tup (j := 0) rfl rfl ?_
                          refine wa_nil ?_
                          intro l9
                          refine ⟨l9, v4, b4, _, rfl, rfl, qv4, fun w9 hw9 => ?_, fun hw9 fs9 => ?_⟩
                          · cases hw1.symm.trans hw9
                          · exact ⟨rfl, fs9, _, rfl, rfl, rfl⟩
                        rintro d9 M9 ⟨rfl, rfl⟩
                        refine wcf hDue (hr.mono (by decide)) ?_
                        refine wa_cons ?_
                        refine we_lst ?_
                        refine wa_cons ?_
                        refine we_str ?_
                        refine wa_nil ?_
                        refine ⟨(by walk_at "size"), ?_⟩
                        refine wa_cons ?_
                        refine we_lst ?_
                        refine wa_cons ?_
                        refine we_ix ?_ (fun _ _ => rfl)
                        refine wv 11 rfl ?_
                        refine we_int ?_
                        refine ix_tup (j := 1) rfl rfl ?_
                        refine wa_nil ?_
                        refine ⟨(by walk_at "size"), ?_⟩
                        refine wa_nil ?_
                        refine ⟨[("room", b4)], rfl, of_decide_eq_true rfl, ?_⟩
                        rw [hw1, show optW none = D.non from rfl]
                        refine od_neSame hr.units rfl rfl ?_
                        refine ⟨_, rfl, ?_⟩
                        refine ⟨fun hb => ?_, fun hb => ?_⟩
                        · walk_at "dead"
                        · walk_at "tidy"
                          refine ws_nil ?_
                          refine ws_wk (Γ' := [some (.lst (ns.map .int)), some (.adr l), some (.obj c.go f1), some (.obj c.stop f2), some (.lst (seqS c f1 f2 f3)), some (.lst (badS c f1 f2)), none, none, none, none, none, none, none, none, none, none]) (M' := _) (by repeat (first | exact wkE | refine wkS ?_ | refine wkN ?_)) (List.Sublist.refl _) ?_
                          refine ws_nil ?_
                          exact ⟨rfl, _, _, hg7, rfl⟩
                      | some w8 =>
                        refine ws_if ?_
                        refine wt_cmp ?_ (nomark _)
                        refine we_cut (Φ0 := fun d9 M9 => d9 = .str w8 ∧ M9 = dlT tb l l2 gs7 m7) (we_lam (k := 8) (hWord _ rfl rfl) 2 rfl dlT_tab TB hcd (hr.mono (by decide)) (fun A9 o9 s9 H9 E9 f9 c9 hr9 => ?_)) ?_
                        · skip
                          refine wxm hStop (hr9.mono (by decide)) ?_
                          refine wa_cons ?_
                          refine we_ix ?_ (fun _ _ => rfl)
                          refine wv 11 rfl ?_
                          refine we_int ?_
                          refine ix_tup (j := 0) rfl rfl ?_
                          refine wa_nil ?_
                          intro l9
                          refine ⟨l9, v4, b4, _, rfl, rfl, qv4, fun w9 hw9 => ?_, fun hw9 fs9 => ?_⟩
                          · cases hw1.symm.trans hw9
                            exact ⟨_, _, rfl, w8, rfl, rfl, rfl, rfl⟩
                          · cases hw1.symm.trans hw9
                        rintro d9 M9 ⟨rfl, rfl⟩
                        refine wcf hDue (hr.mono (by decide)) ?_
                        refine wa_cons ?_
                        refine we_lst ?_
                        refine wa_cons ?_
                        refine we_str ?_
                        refine wa_nil ?_
                        refine ⟨(by walk_at "size"), ?_⟩
                        refine wa_cons ?_
                        refine we_lst ?_
                        refine wa_cons ?_
                        refine we_ix ?_ (fun _ _ => rfl)
                        refine wv 11 rfl ?_
                        refine we_int ?_
                        refine ix_tup (j := 1) rfl rfl ?_
                        refine wa_nil ?_
                        refine ⟨(by walk_at "size"), ?_⟩
                        refine wa_nil ?_
                        refine ⟨[("room", b4)], rfl, of_decide_eq_true rfl, ?_⟩
                        rw [hw1, show optW (some w8) = .str w8 from rfl]
                        refine od_neS ?_
                        rw [decide_eq_true rfl]
                        refine ⟨_, rfl, ?_⟩
                        refine ⟨fun hb => ?_, fun hb => ?_⟩
                        · walk_at "dead"
                        · walk_at "tidy"
                          refine ws_nil ?_
                          refine ws_wk (Γ' := [some (.lst (ns.map .int)), some (.adr l), some (.obj c.go f1), some (.obj c.stop f2), some (.lst (seqS c f1 f2 f3)), some (.lst (badS c f1 f2)), none, none, none, none, none, none, none, none, none, none]) (M' := _) (by repeat (first | exact wkE | refine wkS ?_ | refine wkN ?_)) (List.Sublist.refl _) ?_
                          refine ws_nil ?_
                          exact ⟨rfl, _, _, hg7, rfl⟩
                  | some w8 =>
                    refine ws_if ?_
                    refine wt_cmp ?_ (nomark _)
                    refine we_cut (Φ0 := fun d9 M9 => d9 = .str w8 ∧ M9 = dlT tb l l2 gs7 m7) (we_lam (k := 8) (hWord _ rfl rfl) 2 rfl dlT_tab TB hcd (hr.mono (by decide)) (fun A9 o9 s9 H9 E9 f9 c9 hr9 => ?_)) ?_
                    · skip
                      refine wxm hWhi (hr9.mono (by decide)) ?_
                      refine wa_cons ?_
                      refine we_ix ?_ (fun _ _ => rfl)
                      refine wv 10 rfl ?_
                      refine we_int ?_
                      refine ix_tup (j := 0) rfl rfl ?_
                      refine wa_cons ?_
                      refine we_ix ?_ (fun _ _ => rfl)
                      refine wv 14 rfl ?_
                      refine we_int ?_
                      refine ix_tup (j := 0) rfl rfl ?_
                      refine wa_nil ?_
                      intro l9
                      refine ⟨l9, v3, v7, b3, b7, _, rfl, rfl, qv3, qv7, fun w9 hw9 => ?_, fun hw9 fs9 => ?_⟩
                      · cases hw1.symm.trans hw9
                        exact ⟨_, _, rfl, w8, rfl, rfl, rfl, rfl⟩
                      · cases hw1.symm.trans hw9
                    rintro d9 M9 ⟨rfl, rfl⟩
                    refine wcf hDue (hr.mono (by decide)) ?_
                    refine wa_cons ?_
                    refine we_lst ?_
                    refine wa_cons ?_
                    refine we_str ?_
                    refine wa_cons ?_
                    refine we_str ?_
                    refine wa_nil ?_
                    refine ⟨(by walk_at "size"), ?_⟩
                    refine wa_cons ?_
                    refine we_lst ?_
                    refine wa_cons ?_
                    refine we_ix ?_ (fun _ _ => rfl)
                    refine wv 10 rfl ?_
                    refine we_int ?_
                    refine ix_tup (j := 1) rfl rfl ?_
                    refine wa_cons ?_
                    refine we_ix ?_ (fun _ _ => rfl)
                    refine wv 14 rfl ?_
                    refine we_int ?_
                    refine ix_tup (j := 1) rfl rfl ?_
                    refine wa_nil ?_
                    refine ⟨(by walk_at "size"), ?_⟩
                    refine wa_nil ?_
                    refine ⟨[("test", b3), ("rows", b7)], rfl, of_decide_eq_true rfl, ?_⟩
                    rw [hw1, show optW (some w8) = .str w8 from rfl]
                    refine od_neS ?_
                    rw [decide_eq_true rfl]
                    refine ⟨_, rfl, ?_⟩
                    refine ⟨fun hb => ?_, fun hb => ?_⟩
                    · walk_at "dead"
                    · walk_at "tidy"
                      refine ws_nil ?_
                      cases hw1 : firstW [("room", b4)] with
                      | none =>
                        refine ws_if ?_
                        refine wt_cmp ?_ (nomark _)
                        refine we_cut (Φ0 := fun d9 M9 => d9 = D.non ∧ M9 = dlT tb l l2 gs7 m7) (we_lam (k := 8) (hWord _ rfl rfl) 2 rfl dlT_tab TB hcd (hr.mono (by decide)) (fun A9 o9 s9 H9 E9 f9 c9 hr9 => ?_)) ?_
                        · skip
                          refine wxm hStop (hr9.mono (by decide)) ?_
                          refine wa_cons ?_
                          refine we_ix ?_ (fun _ _ => rfl)
                          refine wv 11 rfl ?_
                          refine we_int ?_
                          refine ix_tup (j := 0) rfl rfl ?_
                          refine wa_nil ?_
                          intro l9
                          refine ⟨l9, v4, b4, _, rfl, rfl, qv4, fun w9 hw9 => ?_, fun hw9 fs9 => ?_⟩
                          · cases hw1.symm.trans hw9
                          · exact ⟨rfl, fs9, _, rfl, rfl, rfl⟩
                        rintro d9 M9 ⟨rfl, rfl⟩
                        refine wcf hDue (hr.mono (by decide)) ?_
                        refine wa_cons ?_
                        refine we_lst ?_
                        refine wa_cons ?_
                        refine we_str ?_
                        refine wa_nil ?_
                        refine ⟨(by walk_at "size"), ?_⟩
                        refine wa_cons ?_
                        refine we_lst ?_
                        refine wa_cons ?_
                        refine we_ix ?_ (fun _ _ => rfl)
                        refine wv 11 rfl ?_
                        refine we_int ?_
                        refine ix_tup (j := 1) rfl rfl ?_
                        refine wa_nil ?_
                        refine ⟨(by walk_at "size"), ?_⟩
                        refine wa_nil ?_
                        refine ⟨[("room", b4)], rfl, of_decide_eq_true rfl, ?_⟩
                        rw [hw1, show optW none = D.non from rfl]
                        refine od_neSame hr.units rfl rfl ?_
                        refine ⟨_, rfl, ?_⟩
                        refine ⟨fun hb => ?_, fun hb => ?_⟩
                        · walk_at "dead"
                        · walk_at "tidy"
                          refine ws_nil ?_
                          refine ws_wk (Γ' := [some (.lst (ns.map .int)), some (.adr l), some (.obj c.go f1), some (.obj c.stop f2), some (.lst (seqS c f1 f2 f3)), some (.lst (badS c f1 f2)), none, none, none, none, none, none, none, none, none, none]) (M' := _) (by repeat (first | exact wkE | refine wkS ?_ | refine wkN ?_)) (List.Sublist.refl _) ?_
                          refine ws_nil ?_
                          exact ⟨rfl, _, _, hg7, rfl⟩
                      | some w8 =>
                        refine ws_if ?_
                        refine wt_cmp ?_ (nomark _)
                        refine we_cut (Φ0 := fun d9 M9 => d9 = .str w8 ∧ M9 = dlT tb l l2 gs7 m7) (we_lam (k := 8) (hWord _ rfl rfl) 2 rfl dlT_tab TB hcd (hr.mono (by decide)) (fun A9 o9 s9 H9 E9 f9 c9 hr9 => ?_)) ?_
                        · skip
                          refine wxm hStop (hr9.mono (by decide)) ?_
                          refine wa_cons ?_
                          refine we_ix ?_ (fun _ _ => rfl)
                          refine wv 11 rfl ?_
                          refine we_int ?_
                          refine ix_tup (j := 0) rfl rfl ?_
                          refine wa_nil ?_
                          intro l9
                          refine ⟨l9, v4, b4, _, rfl, rfl, qv4, fun w9 hw9 => ?_, fun hw9 fs9 => ?_⟩
                          · cases hw1.symm.trans hw9
                            exact ⟨_, _, rfl, w8, rfl, rfl, rfl, rfl⟩
                          · cases hw1.symm.trans hw9
                        rintro d9 M9 ⟨rfl, rfl⟩
                        refine wcf hDue (hr.mono (by decide)) ?_
                        refine wa_cons ?_
                        refine we_lst ?_
                        refine wa_cons ?_
                        refine we_str ?_
                        refine wa_nil ?_
                        refine ⟨(by walk_at "size"), ?_⟩
                        refine wa_cons ?_
                        refine we_lst ?_
                        refine wa_cons ?_
                        refine we_ix ?_ (fun _ _ => rfl)
                        refine wv 11 rfl ?_
                        refine we_int ?_
                        refine ix_tup (j := 1) rfl rfl ?_
                        refine wa_nil ?_
                        refine ⟨(by walk_at "size"), ?_⟩
                        refine wa_nil ?_
                        refine ⟨[("room", b4)], rfl, of_decide_eq_true rfl, ?_⟩
                        rw [hw1, show optW (some w8) = .str w8 from rfl]
                        refine od_neS ?_
                        rw [decide_eq_true rfl]
                        refine ⟨_, rfl, ?_⟩
                        refine ⟨fun hb => ?_, fun hb => ?_⟩
                        · walk_at "dead"
                        · walk_at "tidy"
                          refine ws_nil ?_
                          refine ws_wk (Γ' := [some (.lst (ns.map .int)), some (.adr l), some (.obj c.go f1), some (.obj c.stop f2), some (.lst (seqS c f1 f2 f3)), some (.lst (badS c f1 f2)), none, none, none, none, none, none, none, none, none, none]) (M' := _) (by repeat (first | exact wkE | refine wkS ?_ | refine wkN ?_)) (List.Sublist.refl _) ?_
                          refine ws_nil ?_
                          exact ⟨rfl, _, _, hg7, rfl⟩
              | some w8 =>
                refine ws_if ?_
                refine wt_cmp ?_ (nomark _)
                refine we_cut (Φ0 := fun d9 M9 => d9 = .str w8 ∧ M9 = dlT tb l l2 gs7 m7) (we_lam (k := 8) (hWord _ rfl rfl) 2 rfl dlT_tab TB hcd (hr.mono (by decide)) (fun A9 o9 s9 H9 E9 f9 c9 hr9 => ?_)) ?_
                · skip
                  refine wxm hSee (hr9.mono (by decide)) ?_
                  refine wa_cons ?_
                  refine we_ix ?_ (fun _ _ => rfl)
                  refine wv 11 rfl ?_
                  refine we_int ?_
                  refine ix_tup (j := 0) rfl rfl ?_
                  refine wa_cons ?_
                  refine we_ix ?_ (fun _ _ => rfl)
                  refine wv 12 rfl ?_
                  refine we_int ?_
                  refine ix_tup (j := 0) rfl rfl ?_
                  refine wa_cons ?_
                  refine we_ix ?_ (fun _ _ => rfl)
                  refine wv 13 rfl ?_
                  refine we_int ?_
                  refine ix_tup (j := 0) rfl rfl ?_
                  refine wa_nil ?_
                  intro l9
                  refine ⟨l9, v4, v5, v6, b4, b5, b6, _, rfl, rfl, qv4, qv5, qv6, fun w9 hw9 => ?_, fun hw9 fs9 => ?_⟩
                  · cases hw1.symm.trans hw9
                    exact ⟨_, _, rfl, w8, rfl, rfl, rfl, rfl⟩
                  · cases hw1.symm.trans hw9
                rintro d9 M9 ⟨rfl, rfl⟩
                refine wcf hDue (hr.mono (by decide)) ?_
                refine wa_cons ?_
                refine we_lst ?_
                refine wa_cons ?_
                refine we_str ?_
                refine wa_cons ?_
                refine we_str ?_
                refine wa_cons ?_
                refine we_str ?_
                refine wa_nil ?_
                refine ⟨(by walk_at "size"), ?_⟩
                refine wa_cons ?_
                refine wv 15 rfl ?_
                refine wa_nil ?_
                refine ⟨[("mark", b4), ("rows", b5), ("others", b6)], rfl, of_decide_eq_true rfl, ?_⟩
                rw [hw1, show optW (some w8) = .str w8 from rfl]
                refine od_neS ?_
                rw [decide_eq_true rfl]
                refine ⟨_, rfl, ?_⟩
                refine ⟨fun hb => ?_, fun hb => ?_⟩
                · walk_at "dead"
                · walk_at "tidy"
                  refine ws_nil ?_
                  cases hw1 : firstW [("test", b3), ("rows", b7)] with
                  | none =>
                    refine ws_if ?_
                    refine wt_cmp ?_ (nomark _)
                    refine we_cut (Φ0 := fun d9 M9 => d9 = D.non ∧ M9 = dlT tb l l2 gs7 m7) (we_lam (k := 8) (hWord _ rfl rfl) 2 rfl dlT_tab TB hcd (hr.mono (by decide)) (fun A9 o9 s9 H9 E9 f9 c9 hr9 => ?_)) ?_
                    · skip
                      refine wxm hWhi (hr9.mono (by decide)) ?_
                      refine wa_cons ?_
                      refine we_ix ?_ (fun _ _ => rfl)
                      refine wv 10 rfl ?_
                      refine we_int ?_
                      refine ix_tup (j := 0) rfl rfl ?_
                      refine wa_cons ?_
                      refine we_ix ?_ (fun _ _ => rfl)
                      refine wv 14 rfl ?_
                      refine we_int ?_
                      refine ix_tup (j := 0) rfl rfl ?_
                      refine wa_nil ?_
                      intro l9
                      refine ⟨l9, v3, v7, b3, b7, _, rfl, rfl, qv3, qv7, fun w9 hw9 => ?_, fun hw9 fs9 => ?_⟩
                      · cases hw1.symm.trans hw9
                      · exact ⟨rfl, fs9, _, rfl, rfl, rfl⟩
                    rintro d9 M9 ⟨rfl, rfl⟩
                    refine wcf hDue (hr.mono (by decide)) ?_
                    refine wa_cons ?_
                    refine we_lst ?_
                    refine wa_cons ?_
                    refine we_str ?_
                    refine wa_cons ?_
                    refine we_str ?_
                    refine wa_nil ?_
                    refine ⟨(by walk_at "size"), ?_⟩
                    refine wa_cons ?_
                    refine we_lst ?_
                    refine wa_cons ?_
                    refine we_ix ?_ (fun _ _ => rfl)
                    refine wv 10 rfl ?_
                    refine we_int ?_
                    refine ix_tup (j := 1) rfl rfl ?_
                    refine wa_cons ?_
                    refine we_ix ?_ (fun _ _ => rfl)
                    refine wv 14 rfl ?_
                    refine we_int ?_
                    refine ix_tup (j := 1) rfl rfl ?_
                    refine wa_nil ?_
                    refine ⟨(by walk_at "size"), ?_⟩
                    refine wa_nil ?_
                    refine ⟨[("test", b3), ("rows", b7)], rfl, of_decide_eq_true rfl, ?_⟩
                    rw [hw1, show optW none = D.non from rfl]
                    refine od_neSame hr.units rfl rfl ?_
                    refine ⟨_, rfl, ?_⟩
                    refine ⟨fun hb => ?_, fun hb => ?_⟩
                    · walk_at "dead"
                    · walk_at "tidy"
                      refine ws_nil ?_
                      cases hw1 : firstW [("room", b4)] with
                      | none =>
                        refine ws_if ?_
                        refine wt_cmp ?_ (nomark _)
                        refine we_cut (Φ0 := fun d9 M9 => d9 = D.non ∧ M9 = dlT tb l l2 gs7 m7) (we_lam (k := 8) (hWord _ rfl rfl) 2 rfl dlT_tab TB hcd (hr.mono (by decide)) (fun A9 o9 s9 H9 E9 f9 c9 hr9 => ?_)) ?_
                        · skip
                          refine wxm hStop (hr9.mono (by decide)) ?_
                          refine wa_cons ?_
                          refine we_ix ?_ (fun _ _ => rfl)
                          refine wv 11 rfl ?_
                          refine we_int ?_
                          refine ix_tup (j := 0) rfl rfl ?_
                          refine wa_nil ?_
                          intro l9
                          refine ⟨l9, v4, b4, _, rfl, rfl, qv4, fun w9 hw9 => ?_, fun hw9 fs9 => ?_⟩
                          · cases hw1.symm.trans hw9
                          · exact ⟨rfl, fs9, _, rfl, rfl, rfl⟩
                        rintro d9 M9 ⟨rfl, rfl⟩
                        refine wcf hDue (hr.mono (by decide)) ?_
                        refine wa_cons ?_
                        refine we_lst ?_
                        refine wa_cons ?_
                        refine we_str ?_
                        refine wa_nil ?_
                        refine ⟨(by walk_at "size"), ?_⟩
                        refine wa_cons ?_
                        refine we_lst ?_
                        refine wa_cons ?_
                        refine we_ix ?_ (fun _ _ => rfl)
                        refine wv 11 rfl ?_
                        refine we_int ?_
                        refine ix_tup (j := 1) rfl rfl ?_
                        refine wa_nil ?_
                        refine ⟨(by walk_at "size"), ?_⟩
                        refine wa_nil ?_
                        refine ⟨[("room", b4)], rfl, of_decide_eq_true rfl, ?_⟩
                        rw [hw1, show optW none = D.non from rfl]
                        refine od_neSame hr.units rfl rfl ?_
                        refine ⟨_, rfl, ?_⟩
                        refine ⟨fun hb => ?_, fun hb => ?_⟩
                        · walk_at "dead"
                        · walk_at "tidy"
                          refine ws_nil ?_
                          refine ws_wk (Γ' := [some (.lst (ns.map .int)), some (.adr l), some (.obj c.go f1), some (.obj c.stop f2), some (.lst (seqS c f1 f2 f3)), some (.lst (badS c f1 f2)), none, none, none, none, none, none, none, none, none, none]) (M' := _) (by repeat (first | exact wkE | refine wkS ?_ | refine wkN ?_)) (List.Sublist.refl _) ?_
                          refine ws_nil ?_
                          exact ⟨rfl, _, _, hg7, rfl⟩
                      | some w8 =>
                        refine ws_if ?_
                        refine wt_cmp ?_ (nomark _)
                        refine we_cut (Φ0 := fun d9 M9 => d9 = .str w8 ∧ M9 = dlT tb l l2 gs7 m7) (we_lam (k := 8) (hWord _ rfl rfl) 2 rfl dlT_tab TB hcd (hr.mono (by decide)) (fun A9 o9 s9 H9 E9 f9 c9 hr9 => ?_)) ?_
                        · skip
                          refine wxm hStop (hr9.mono (by decide)) ?_
                          refine wa_cons ?_
                          refine we_ix ?_ (fun _ _ => rfl)
                          refine wv 11 rfl ?_
                          refine we_int ?_
                          refine ix_tup (j := 0) rfl rfl ?_
                          refine wa_nil ?_
                          intro l9
                          refine ⟨l9, v4, b4, _, rfl, rfl, qv4, fun w9 hw9 => ?_, fun hw9 fs9 => ?_⟩
                          · cases hw1.symm.trans hw9
                            exact ⟨_, _, rfl, w8, rfl, rfl, rfl, rfl⟩
                          · cases hw1.symm.trans hw9
                        rintro d9 M9 ⟨rfl, rfl⟩
                        refine wcf hDue (hr.mono (by decide)) ?_
                        refine wa_cons ?_
                        refine we_lst ?_
                        refine wa_cons ?_
                        refine we_str ?_
                        refine wa_nil ?_
                        refine ⟨(by walk_at "size"), ?_⟩
                        refine wa_cons ?_
                        refine we_lst ?_
                        refine wa_cons ?_
                        refine we_ix ?_ (fun _ _ => rfl)
                        refine wv 11 rfl ?_
                        refine we_int ?_
                        refine ix_tup (j := 1) rfl rfl ?_
                        refine wa_nil ?_
                        refine ⟨(by walk_at "size"), ?_⟩
                        refine wa_nil ?_
                        refine ⟨[("room", b4)], rfl, of_decide_eq_true rfl, ?_⟩
                        rw [hw1, show optW (some w8) = .str w8 from rfl]
                        refine od_neS ?_
                        rw [decide_eq_true rfl]
                        refine ⟨_, rfl, ?_⟩
                        refine ⟨fun hb => ?_, fun hb => ?_⟩
                        · walk_at "dead"
                        · walk_at "tidy"
                          refine ws_nil ?_
                          refine ws_wk (Γ' := [some (.lst (ns.map .int)), some (.adr l), some (.obj c.go f1), some (.obj c.stop f2), some (.lst (seqS c f1 f2 f3)), some (.lst (badS c f1 f2)), none, none, none, none, none, none, none, none, none, none]) (M' := _) (by repeat (first | exact wkE | refine wkS ?_ | refine wkN ?_)) (List.Sublist.refl _) ?_
                          refine ws_nil ?_
                          exact ⟨rfl, _, _, hg7, rfl⟩
                  | some w8 =>
                    refine ws_if ?_
                    refine wt_cmp ?_ (nomark _)
                    refine we_cut (Φ0 := fun d9 M9 => d9 = .str w8 ∧ M9 = dlT tb l l2 gs7 m7) (we_lam (k := 8) (hWord _ rfl rfl) 2 rfl dlT_tab TB hcd (hr.mono (by decide)) (fun A9 o9 s9 H9 E9 f9 c9 hr9 => ?_)) ?_
                    · skip
                      refine wxm hWhi (hr9.mono (by decide)) ?_
                      refine wa_cons ?_
                      refine we_ix ?_ (fun _ _ => rfl)
                      refine wv 10 rfl ?_
                      refine we_int ?_
                      refine ix_tup (j := 0) rfl rfl ?_
                      refine wa_cons ?_
                      refine we_ix ?_ (fun _ _ => rfl)
                      refine wv 14 rfl ?_
                      refine we_int ?_
                      refine ix_tup (j := 0) rfl rfl ?_
                      refine wa_nil ?_
                      intro l9
                      refine ⟨l9, v3, v7, b3, b7, _, rfl, rfl, qv3, qv7, fun w9 hw9 => ?_, fun hw9 fs9 => ?_⟩
                      · cases hw1.symm.trans hw9
                        exact ⟨_, _, rfl, w8, rfl, rfl, rfl, rfl⟩
                      · cases hw1.symm.trans hw9
                    rintro d9 M9 ⟨rfl, rfl⟩
                    refine wcf hDue (hr.mono (by decide)) ?_
                    refine wa_cons ?_
                    refine we_lst ?_
                    refine wa_cons ?_
                    refine we_str ?_
                    refine wa_cons ?_
                    refine we_str ?_
                    refine wa_nil ?_
                    refine ⟨(by walk_at "size"), ?_⟩
                    refine wa_cons ?_
                    refine we_lst ?_
                    refine wa_cons ?_
                    refine we_ix ?_ (fun _ _ => rfl)
                    refine wv 10 rfl ?_
                    refine we_int ?_
                    refine ix_tup (j := 1) rfl rfl ?_
                    refine wa_cons ?_
                    refine we_ix ?_ (fun _ _ => rfl)
                    refine wv 14 rfl ?_
                    refine we_int ?_
                    refine ix_tup (j := 1) rfl rfl ?_
                    refine wa_nil ?_
                    refine ⟨(by walk_at "size"), ?_⟩
                    refine wa_nil ?_
                    refine ⟨[("test", b3), ("rows", b7)], rfl, of_decide_eq_true rfl, ?_⟩
                    rw [hw1, show optW (some w8) = .str w8 from rfl]
                    refine od_neS ?_
                    rw [decide_eq_true rfl]
                    refine ⟨_, rfl, ?_⟩
                    refine ⟨fun hb => ?_, fun hb => ?_⟩
                    · walk_at "dead"
                    · walk_at "tidy"
                      refine ws_nil ?_
                      cases hw1 : firstW [("room", b4)] with
                      | none =>
                        refine ws_if ?_
                        refine wt_cmp ?_ (nomark _)
                        refine we_cut (Φ0 := fun d9 M9 => d9 = D.non ∧ M9 = dlT tb l l2 gs7 m7) (we_lam (k := 8) (hWord _ rfl rfl) 2 rfl dlT_tab TB hcd (hr.mono (by decide)) (fun A9 o9 s9 H9 E9 f9 c9 hr9 => ?_)) ?_
                        · skip
                          refine wxm hStop (hr9.mono (by decide)) ?_
                          refine wa_cons ?_
                          refine we_ix ?_ (fun _ _ => rfl)
                          refine wv 11 rfl ?_
                          refine we_int ?_
                          refine ix_tup (j := 0) rfl rfl ?_
                          refine wa_nil ?_
                          intro l9
                          refine ⟨l9, v4, b4, _, rfl, rfl, qv4, fun w9 hw9 => ?_, fun hw9 fs9 => ?_⟩
                          · cases hw1.symm.trans hw9
                          · exact ⟨rfl, fs9, _, rfl, rfl, rfl⟩
                        rintro d9 M9 ⟨rfl, rfl⟩
                        refine wcf hDue (hr.mono (by decide)) ?_
                        refine wa_cons ?_
                        refine we_lst ?_
                        refine wa_cons ?_
                        refine we_str ?_
                        refine wa_nil ?_
                        refine ⟨(by walk_at "size"), ?_⟩
                        refine wa_cons ?_
                        refine we_lst ?_
                        refine wa_cons ?_
                        refine we_ix ?_ (fun _ _ => rfl)
                        refine wv 11 rfl ?_
                        refine we_int ?_
                        refine ix_tup (j := 1) rfl rfl ?_
                        refine wa_nil ?_
                        refine ⟨(by walk_at "size"), ?_⟩
                        refine wa_nil ?_
                        refine ⟨[("room", b4)], rfl, of_decide_eq_true rfl, ?_⟩
                        rw [hw1, show optW none = D.non from rfl]
                        refine od_neSame hr.units rfl rfl ?_
                        refine ⟨_, rfl, ?_⟩
                        refine ⟨fun hb => ?_, fun hb => ?_⟩
                        · walk_at "dead"
                        · walk_at "tidy"
                          refine ws_nil ?_
                          refine ws_wk (Γ' := [some (.lst (ns.map .int)), some (.adr l), some (.obj c.go f1), some (.obj c.stop f2), some (.lst (seqS c f1 f2 f3)), some (.lst (badS c f1 f2)), none, none, none, none, none, none, none, none, none, none]) (M' := _) (by repeat (first | exact wkE | refine wkS ?_ | refine wkN ?_)) (List.Sublist.refl _) ?_
                          refine ws_nil ?_
                          exact ⟨rfl, _, _, hg7, rfl⟩
                      | some w8 =>
                        refine ws_if ?_
                        refine wt_cmp ?_ (nomark _)
                        refine we_cut (Φ0 := fun d9 M9 => d9 = .str w8 ∧ M9 = dlT tb l l2 gs7 m7) (we_lam (k := 8) (hWord _ rfl rfl) 2 rfl dlT_tab TB hcd (hr.mono (by decide)) (fun A9 o9 s9 H9 E9 f9 c9 hr9 => ?_)) ?_
                        · skip
                          refine wxm hStop (hr9.mono (by decide)) ?_
                          refine wa_cons ?_
                          refine we_ix ?_ (fun _ _ => rfl)
                          refine wv 11 rfl ?_
                          refine we_int ?_
                          refine ix_tup (j := 0) rfl rfl ?_
                          refine wa_nil ?_
                          intro l9
                          refine ⟨l9, v4, b4, _, rfl, rfl, qv4, fun w9 hw9 => ?_, fun hw9 fs9 => ?_⟩
                          · cases hw1.symm.trans hw9
                            exact ⟨_, _, rfl, w8, rfl, rfl, rfl, rfl⟩
                          · cases hw1.symm.trans hw9
                        rintro d9 M9 ⟨rfl, rfl⟩
                        refine wcf hDue (hr.mono (by decide)) ?_
                        refine wa_cons ?_
                        refine we_lst ?_
                        refine wa_cons ?_
                        refine we_str ?_
                        refine wa_nil ?_
                        refine ⟨(by walk_at "size"), ?_⟩
                        refine wa_cons ?_
                        refine we_lst ?_
                        refine wa_cons ?_
                        refine we_ix ?_ (fun _ _ => rfl)
                        refine wv 11 rfl ?_
                        refine we_int ?_
                        refine ix_tup (j := 1) rfl rfl ?_
                        refine wa_nil ?_
                        refine ⟨(by walk_at "size"), ?_⟩
                        refine wa_nil ?_
                        refine ⟨[("room", b4)], rfl, of_decide_eq_true rfl, ?_⟩
                        rw [hw1, show optW (some w8) = .str w8 from rfl]
                        refine od_neS ?_
                        rw [decide_eq_true rfl]
                        refine ⟨_, rfl, ?_⟩
                        refine ⟨fun hb => ?_, fun hb => ?_⟩
                        · walk_at "dead"
                        · walk_at "tidy"
                          refine ws_nil ?_
                          refine ws_wk (Γ' := [some (.lst (ns.map .int)), some (.adr l), some (.obj c.go f1), some (.obj c.stop f2), some (.lst (seqS c f1 f2 f3)), some (.lst (badS c f1 f2)), none, none, none, none, none, none, none, none, none, none]) (M' := _) (by repeat (first | exact wkE | refine wkS ?_ | refine wkN ?_)) (List.Sublist.refl _) ?_
                          refine ws_nil ?_
                          exact ⟨rfl, _, _, hg7, rfl⟩
          | some w8 =>
            refine ws_if ?_
            refine wt_cmp ?_ (nomark _)
            refine we_cut (Φ0 := fun d9 M9 => d9 = .str w8 ∧ M9 = dlT tb l l2 gs7 m7) (we_lam (k := 8) (hWord _ rfl rfl) 2 rfl dlT_tab TB hcd (hr.mono (by decide)) (fun A9 o9 s9 H9 E9 f9 c9 hr9 => ?_)) ?_
            · skip
              refine wxm hIf (hr9.mono (by decide)) ?_
              refine wa_cons ?_
              refine we_ix ?_ (fun _ _ => rfl)
              refine wv 10 rfl ?_
              refine we_int ?_
              refine ix_tup (j := 0) rfl rfl ?_
              refine wa_cons ?_
              refine we_ix ?_ (fun _ _ => rfl)
              refine wv 12 rfl ?_
              refine we_int ?_
              refine ix_tup (j := 0) rfl rfl ?_
              refine wa_cons ?_
              refine we_ix ?_ (fun _ _ => rfl)
              refine wv 13 rfl ?_
              refine we_int ?_
              refine ix_tup (j := 0) rfl rfl ?_
              refine wa_nil ?_
              intro l9
              refine ⟨l9, v3, v5, v6, b3, b5, b6, _, rfl, rfl, qv3, qv5, qv6, fun w9 hw9 => ?_, fun hw9 fs9 => ?_⟩
              · cases hw1.symm.trans hw9
                exact ⟨_, _, rfl, w8, rfl, rfl, rfl, rfl⟩
              · cases hw1.symm.trans hw9
            rintro d9 M9 ⟨rfl, rfl⟩
            refine wcf hDue (hr.mono (by decide)) ?_
            refine wa_cons ?_
            refine we_lst ?_
            refine wa_cons ?_
            refine we_str ?_
            refine wa_cons ?_
            refine we_str ?_
            refine wa_cons ?_
            refine we_str ?_
            refine wa_nil ?_
            refine ⟨(by walk_at "size"), ?_⟩
            refine wa_cons ?_
            refine wv 15 rfl ?_
            refine wa_nil ?_
            refine ⟨[("test", b3), ("rows", b5), ("others", b6)], rfl, of_decide_eq_true rfl, ?_⟩
            rw [hw1, show optW (some w8) = .str w8 from rfl]
            refine od_neS ?_
            rw [decide_eq_true rfl]
            refine ⟨_, rfl, ?_⟩
            refine ⟨fun hb => ?_, fun hb => ?_⟩
            · walk_at "dead"
            · walk_at "tidy"
              refine ws_nil ?_
              refine ws_set 15 sc_law.nd ?_
              refine we_lst ?_
              refine wa_cons ?_
              refine we_ix ?_ (fun _ _ => rfl)
              refine wv 11 rfl ?_
              refine we_int ?_
              refine ix_tup (j := 1) rfl rfl ?_
              refine wa_cons ?_
              refine we_ix ?_ (fun _ _ => rfl)
              refine wv 12 rfl ?_
              refine we_int ?_
              refine ix_tup (j := 1) rfl rfl ?_
              refine wa_cons ?_
              refine we_ix ?_ (fun _ _ => rfl)
              refine wv 13 rfl ?_
              refine we_int ?_
              refine ix_tup (j := 1) rfl rfl ?_
              refine wa_nil ?_
              refine ⟨(by walk_at "size"), ?_⟩
              cases hw1 : firstW [("mark", b4), ("rows", b5), ("others", b6)] with
              | none =>
                refine ws_if ?_
                refine wt_cmp ?_ (nomark _)
                refine we_cut (Φ0 := fun d9 M9 => d9 = D.non ∧ M9 = dlT tb l l2 gs7 m7) (we_lam (k := 8) (hWord _ rfl rfl) 2 rfl dlT_tab TB hcd (hr.mono (by decide)) (fun A9 o9 s9 H9 E9 f9 c9 hr9 => ?_)) ?_
                · skip
                  refine wxm hSee (hr9.mono (by decide)) ?_
                  refine wa_cons ?_
                  refine we_ix ?_ (fun _ _ => rfl)
                  refine wv 11 rfl ?_
                  refine we_int ?_
                  refine ix_tup (j := 0) rfl rfl ?_
                  refine wa_cons ?_
                  refine we_ix ?_ (fun _ _ => rfl)
                  refine wv 12 rfl ?_
                  refine we_int ?_
                  refine ix_tup (j := 0) rfl rfl ?_
                  refine wa_cons ?_
                  refine we_ix ?_ (fun _ _ => rfl)
                  refine wv 13 rfl ?_
                  refine we_int ?_
                  refine ix_tup (j := 0) rfl rfl ?_
                  refine wa_nil ?_
                  intro l9
                  refine ⟨l9, v4, v5, v6, b4, b5, b6, _, rfl, rfl, qv4, qv5, qv6, fun w9 hw9 => ?_, fun hw9 fs9 => ?_⟩
                  · cases hw1.symm.trans hw9
                  · exact ⟨rfl, fs9, _, rfl, rfl, rfl⟩
                rintro d9 M9 ⟨rfl, rfl⟩
                refine wcf hDue (hr.mono (by decide)) ?_
                refine wa_cons ?_
                refine we_lst ?_
                refine wa_cons ?_
                refine we_str ?_
                refine wa_cons ?_
                refine we_str ?_
                refine wa_cons ?_
                refine we_str ?_
                refine wa_nil ?_
                refine ⟨(by walk_at "size"), ?_⟩
                refine wa_cons ?_
                refine wv 15 rfl ?_
                refine wa_nil ?_
                refine ⟨[("mark", b4), ("rows", b5), ("others", b6)], rfl, of_decide_eq_true rfl, ?_⟩
                rw [hw1, show optW none = D.non from rfl]
                refine od_neSame hr.units rfl rfl ?_
                refine ⟨_, rfl, ?_⟩
                refine ⟨fun hb => ?_, fun hb => ?_⟩
                · walk_at "dead"
                · walk_at "tidy"
                  refine ws_nil ?_
                  cases hw1 : firstW [("test", b3), ("rows", b7)] with
                  | none =>
                    refine ws_if ?_
                    refine wt_cmp ?_ (nomark _)
                    refine we_cut (Φ0 := fun d9 M9 => d9 = D.non ∧ M9 = dlT tb l l2 gs7 m7) (we_lam (k := 8) (hWord _ rfl rfl) 2 rfl dlT_tab TB hcd (hr.mono (by decide)) (fun A9 o9 s9 H9 E9 f9 c9 hr9 => ?_)) ?_
                    · skip
                      refine wxm hWhi (hr9.mono (by decide)) ?_
                      refine wa_cons ?_
                      refine we_ix ?_ (fun _ _ => rfl)
                      refine wv 10 rfl ?_
                      refine we_int ?_
                      refine ix_tup (j := 0) rfl rfl ?_
                      refine wa_cons ?_
                      refine we_ix ?_ (fun _ _ => rfl)
                      refine wv 14 rfl ?_
                      refine we_int ?_
                      refine ix_tup (j := 0) rfl rfl ?_
                      refine wa_nil ?_
                      intro l9
                      refine ⟨l9, v3, v7, b3, b7, _, rfl, rfl, qv3, qv7, fun w9 hw9 => ?_, fun hw9 fs9 => ?_⟩
                      · cases hw1.symm.trans hw9
                      · exact ⟨rfl, fs9, _, rfl, rfl, rfl⟩
                    rintro d9 M9 ⟨rfl, rfl⟩
                    refine wcf hDue (hr.mono (by decide)) ?_
                    refine wa_cons ?_
                    refine we_lst ?_
                    refine wa_cons ?_
                    refine we_str ?_
                    refine wa_cons ?_
                    refine we_str ?_
                    refine wa_nil ?_
                    refine ⟨(by walk_at "size"), ?_⟩
                    refine wa_cons ?_
                    refine we_lst ?_
                    refine wa_cons ?_
                    refine we_ix ?_ (fun _ _ => rfl)
                    refine wv 10 rfl ?_
                    refine we_int ?_
                    refine ix_tup (j := 1) rfl rfl ?_
                    refine wa_cons ?_
                    refine we_ix ?_ (fun _ _ => rfl)
                    refine wv 14 rfl ?_
                    refine we_int ?_
                    refine ix_tup (j := 1) rfl rfl ?_
                    refine wa_nil ?_
                    refine ⟨(by walk_at "size"), ?_⟩
                    refine wa_nil ?_
                    refine ⟨[("test", b3), ("rows", b7)], rfl, of_decide_eq_true rfl, ?_⟩
                    rw [hw1, show optW none = D.non from rfl]
                    refine od_neSame hr.units rfl rfl ?_
                    refine ⟨_, rfl, ?_⟩
                    refine ⟨fun hb => ?_, fun hb => ?_⟩
                    · walk_at "dead"
                    · walk_at "tidy"
                      refine ws_nil ?_
                      cases hw1 : firstW [("room", b4)] with
                      | none =>
                        refine ws_if ?_
                        refine wt_cmp ?_ (nomark _)
                        refine we_cut (Φ0 := fun d9 M9 => d9 = D.non ∧ M9 = dlT tb l l2 gs7 m7) (we_lam (k := 8) (hWord _ rfl rfl) 2 rfl dlT_tab TB hcd (hr.mono (by decide)) (fun A9 o9 s9 H9 E9 f9 c9 hr9 => ?_)) ?_
                        · skip
                          refine wxm hStop (hr9.mono (by decide)) ?_
                          refine wa_cons ?_
                          refine we_ix ?_ (fun _ _ => rfl)
                          refine wv 11 rfl ?_
                          refine we_int ?_
                          refine ix_tup (j := 0) rfl rfl ?_
                          refine wa_nil ?_
                          intro l9
                          refine ⟨l9, v4, b4, _, rfl, rfl, qv4, fun w9 hw9 => ?_, fun hw9 fs9 => ?_⟩
                          · cases hw1.symm.trans hw9
                          · exact ⟨rfl, fs9, _, rfl, rfl, rfl⟩
                        rintro d9 M9 ⟨rfl, rfl⟩
                        refine wcf hDue (hr.mono (by decide)) ?_
                        refine wa_cons ?_
                        refine we_lst ?_
                        refine wa_cons ?_
                        refine we_str ?_
                        refine wa_nil ?_
                        refine ⟨(by walk_at "size"), ?_⟩
                        refine wa_cons ?_
                        refine we_lst ?_
                        refine wa_cons ?_
                        refine we_ix ?_ (fun _ _ => rfl)
                        refine wv 11 rfl ?_
                        refine we_int ?_
                        refine ix_tup (j := 1) rfl rfl ?_
                        refine wa_nil ?_
                        refine ⟨(by walk_at "size"), ?_⟩
                        refine wa_nil ?_
                        refine ⟨[("room", b4)], rfl, of_decide_eq_true rfl, ?_⟩
                        rw [hw1, show optW none = D.non from rfl]
                        refine od_neSame hr.units rfl rfl ?_
                        refine ⟨_, rfl, ?_⟩
                        refine ⟨fun hb => ?_, fun hb => ?_⟩
                        · walk_at "dead"
                        · walk_at "tidy"
                          refine ws_nil ?_
                          refine ws_wk (Γ' := [some (.lst (ns.map .int)), some (.adr l), some (.obj c.go f1), some (.obj c.stop f2), some (.lst (seqS c f1 f2 f3)), some (.lst (badS c f1 f2)), none, none, none, none, none, none, none, none, none, none]) (M' := _) (by repeat (first | exact wkE | refine wkS ?_ | refine wkN ?_)) (List.Sublist.refl _) ?_
                          refine ws_nil ?_
                          exact ⟨rfl, _, _, hg7, rfl⟩
                      | some w8 =>
                        refine ws_if ?_
                        refine wt_cmp ?_ (nomark _)
                        refine we_cut (Φ0 := fun d9 M9 => d9 = .str w8 ∧ M9 = dlT tb l l2 gs7 m7) (we_lam (k := 8) (hWord _ rfl rfl) 2 rfl dlT_tab TB hcd (hr.mono (by decide)) (fun A9 o9 s9 H9 E9 f9 c9 hr9 => ?_)) ?_
                        · skip
                          refine wxm hStop (hr9.mono (by decide)) ?_
                          refine wa_cons ?_
                          refine we_ix ?_ (fun _ _ => rfl)
                          refine wv 11 rfl ?_
                          refine we_int ?_
                          refine ix_tup (j := 0) rfl rfl ?_
                          refine wa_nil ?_
                          intro l9
                          refine ⟨l9, v4, b4, _, rfl, rfl, qv4, fun w9 hw9 => ?_, fun hw9 fs9 => ?_⟩
                          · cases hw1.symm.trans hw9
                            exact ⟨_, _, rfl, w8, rfl, rfl, rfl, rfl⟩
                          · cases hw1.symm.trans hw9
                        rintro d9 M9 ⟨rfl, rfl⟩
                        refine wcf hDue (hr.mono (by decide)) ?_
                        refine wa_cons ?_
                        refine we_lst ?_
                        refine wa_cons ?_
                        refine we_str ?_
                        refine wa_nil ?_
                        refine ⟨(by walk_at "size"), ?_⟩
                        refine wa_cons ?_
                        refine we_lst ?_
                        refine wa_cons ?_
                        refine we_ix ?_ (fun _ _ => rfl)
                        refine wv 11 rfl ?_
                        refine we_int ?_
                        refine ix_tup (j := 1) rfl rfl ?_
                        refine wa_nil ?_
                        refine ⟨(by walk_at "size"), ?_⟩
                        refine wa_nil ?_
                        refine ⟨[("room", b4)], rfl, of_decide_eq_true rfl, ?_⟩
                        rw [hw1, show optW (some w8) = .str w8 from rfl]
                        refine od_neS ?_
                        rw [decide_eq_true rfl]
                        refine ⟨_, rfl, ?_⟩
                        refine ⟨fun hb => ?_, fun hb => ?_⟩
                        · walk_at "dead"
                        · walk_at "tidy"
                          refine ws_nil ?_
                          refine ws_wk (Γ' := [some (.lst (ns.map .int)), some (.adr l), some (.obj c.go f1), some (.obj c.stop f2), some (.lst (seqS c f1 f2 f3)), some (.lst (badS c f1 f2)), none, none, none, none, none, none, none, none, none, none]) (M' := _) (by repeat (first | exact wkE | refine wkS ?_ | refine wkN ?_)) (List.Sublist.refl _) ?_
                          refine ws_nil ?_
                          exact ⟨rfl, _, _, hg7, rfl⟩
                  | some w8 =>
                    refine ws_if ?_
                    refine wt_cmp ?_ (nomark _)
                    refine we_cut (Φ0 := fun d9 M9 => d9 = .str w8 ∧ M9 = dlT tb l l2 gs7 m7) (we_lam (k := 8) (hWord _ rfl rfl) 2 rfl dlT_tab TB hcd (hr.mono (by decide)) (fun A9 o9 s9 H9 E9 f9 c9 hr9 => ?_)) ?_
                    · skip
                      refine wxm hWhi (hr9.mono (by decide)) ?_
                      refine wa_cons ?_
                      refine we_ix ?_ (fun _ _ => rfl)
                      refine wv 10 rfl ?_
                      refine we_int ?_
                      refine ix_tup (j := 0) rfl rfl ?_
                      refine wa_cons ?_
                      refine we_ix ?_ (fun _ _ => rfl)
                      refine wv 14 rfl ?_
                      refine we_int ?_
                      refine ix_tup (j := 0) rfl rfl ?_
                      refine wa_nil ?_
                      intro l9
                      refine ⟨l9, v3, v7, b3, b7, _, rfl, rfl, qv3, qv7, fun w9 hw9 => ?_, fun hw9 fs9 => ?_⟩
                      · cases hw1.symm.trans hw9
                        exact ⟨_, _, rfl, w8, rfl, rfl, rfl, rfl⟩
                      · cases hw1.symm.trans hw9
                    rintro d9 M9 ⟨rfl, rfl⟩
                    refine wcf hDue (hr.mono (by decide)) ?_
                    refine wa_cons ?_
                    refine we_lst ?_
                    refine wa_cons ?_
                    refine we_str ?_
                    refine wa_cons ?_
                    refine we_str ?_
                    refine wa_nil ?_
                    refine ⟨(by walk_at "size"), ?_⟩
                    refine wa_cons ?_
                    refine we_lst ?_
                    refine wa_cons ?_
                    refine we_ix ?_ (fun _ _ => rfl)
                    refine wv 10 rfl ?_
                    refine we_int ?_
                    refine ix_tup (j := 1) rfl rfl ?_
                    refine wa_cons ?_
                    refine we_ix ?_ (fun _ _ => rfl)
                    refine wv 14 rfl ?_
                    refine we_int ?_
                    refine ix_tup (j := 1) rfl rfl ?_
                    refine wa_nil ?_
                    refine ⟨(by walk_at "size"), ?_⟩
                    refine wa_nil ?_
                    refine ⟨[("test", b3), ("rows", b7)], rfl, of_decide_eq_true rfl, ?_⟩
                    rw [hw1, show optW (some w8) = .str w8 from rfl]
                    refine od_neS ?_
                    rw [decide_eq_true rfl]
                    refine ⟨_, rfl, ?_⟩
                    refine ⟨fun hb => ?_, fun hb => ?_⟩
                    · walk_at "dead"
                    · walk_at "tidy"
                      refine ws_nil ?_
                      cases hw1 : firstW [("room", b4)] with
                      | none =>
                        refine ws_if ?_
                        refine wt_cmp ?_ (nomark _)
                        refine we_cut (Φ0 := fun d9 M9 => d9 = D.non ∧ M9 = dlT tb l l2 gs7 m7) (we_lam (k := 8) (hWord _ rfl rfl) 2 rfl dlT_tab TB hcd (hr.mono (by decide)) (fun A9 o9 s9 H9 E9 f9 c9 hr9 => ?_)) ?_
                        · skip
                          refine wxm hStop (hr9.mono (by decide)) ?_
                          refine wa_cons ?_
                          refine we_ix ?_ (fun _ _ => rfl)
                          refine wv 11 rfl ?_
                          refine we_int ?_
                          refine ix_tup (j := 0) rfl rfl ?_
                          refine wa_nil ?_
                          intro l9
                          refine ⟨l9, v4, b4, _, rfl, rfl, qv4, fun w9 hw9 => ?_, fun hw9 fs9 => ?_⟩
                          · cases hw1.symm.trans hw9
                          · exact ⟨rfl, fs9, _, rfl, rfl, rfl⟩
                        rintro d9 M9 ⟨rfl, rfl⟩
                        refine wcf hDue (hr.mono (by decide)) ?_
                        refine wa_cons ?_
                        refine we_lst ?_
                        refine wa_cons ?_
                        refine we_str ?_
                        refine wa_nil ?_
                        refine ⟨(by walk_at "size"), ?_⟩
                        refine wa_cons ?_
                        refine we_lst ?_
                        refine wa_cons ?_
                        refine we_ix ?_ (fun _ _ => rfl)
                        refine wv 11 rfl ?_
                        refine we_int ?_
                        refine ix_tup (j := 1) rfl rfl ?_
                        refine wa_nil ?_
                        refine ⟨(by walk_at "size"), ?_⟩
                        refine wa_nil ?_
                        refine ⟨[("room", b4)], rfl, of_decide_eq_true rfl, ?_⟩
                        rw [hw1, show optW none = D.non from rfl]
                        refine od_neSame hr.units rfl rfl ?_
                        refine ⟨_, rfl, ?_⟩
                        refine ⟨fun hb => ?_, fun hb => ?_⟩
                        · walk_at "dead"
                        · walk_at "tidy"
                          refine ws_nil ?_
                          refine ws_wk (Γ' := [some (.lst (ns.map .int)), some (.adr l), some (.obj c.go f1), some (.obj c.stop f2), some (.lst (seqS c f1 f2 f3)), some (.lst (badS c f1 f2)), none, none, none, none, none, none, none, none, none, none]) (M' := _) (by repeat (first | exact wkE | refine wkS ?_ | refine wkN ?_)) (List.Sublist.refl _) ?_
                          refine ws_nil ?_
                          exact ⟨rfl, _, _, hg7, rfl⟩
                      | some w8 =>
                        refine ws_if ?_
                        refine wt_cmp ?_ (nomark _)
                        refine we_cut (Φ0 := fun d9 M9 => d9 = .str w8 ∧ M9 = dlT tb l l2 gs7 m7) (we_lam (k := 8) (hWord _ rfl rfl) 2 rfl dlT_tab TB hcd (hr.mono (by decide)) (fun A9 o9 s9 H9 E9 f9 c9 hr9 => ?_)) ?_
                        · skip
                          refine wxm hStop (hr9.mono (by decide)) ?_
                          refine wa_cons ?_
                          refine we_ix ?_ (fun _ _ => rfl)
                          refine wv 11 rfl ?_
                          refine we_int ?_
                          refine ix_tup (j := 0) rfl rfl ?_
                          refine wa_nil ?_
                          intro l9
                          refine ⟨l9, v4, b4, _, rfl, rfl, qv4, fun w9 hw9 => ?_, fun hw9 fs9 => ?_⟩
                          · cases hw1.symm.trans hw9
                            exact ⟨_, _, rfl, w8, rfl, rfl, rfl, rfl⟩
                          · cases hw1.symm.trans hw9
                        rintro d9 M9 ⟨rfl, rfl⟩
                        refine wcf hDue (hr.mono (by decide)) ?_
                        refine wa_cons ?_
                        refine we_lst ?_
                        refine wa_cons ?_
                        refine we_str ?_
                        refine wa_nil ?_
                        refine ⟨(by walk_at "size"), ?_⟩
                        refine wa_cons ?_
                        refine we_lst ?_
                        refine wa_cons ?_
                        refine we_ix ?_ (fun _ _ => rfl)
                        refine wv 11 rfl ?_
                        refine we_int ?_
                        refine ix_tup (j := 1) rfl rfl ?_
                        refine wa_nil ?_
                        refine ⟨(by walk_at "size"), ?_⟩
                        refine wa_nil ?_
                        refine ⟨[("room", b4)], rfl, of_decide_eq_true rfl, ?_⟩
                        rw [hw1, show optW (some w8) = .str w8 from rfl]
                        refine od_neS ?_
                        rw [decide_eq_true rfl]
                        refine ⟨_, rfl, ?_⟩
                        refine ⟨fun hb => ?_, fun hb => ?_⟩
                        · walk_at "dead"
                        · walk_at "tidy"
                          refine ws_nil ?_
                          refine ws_wk (Γ' := [some (.lst (ns.map .int)), some (.adr l), some (.obj c.go f1), some (.obj c.stop f2), some (.lst (seqS c f1 f2 f3)), some (.lst (badS c f1 f2)), none, none, none, none, none, none, none, none, none, none]) (M' := _) (by repeat (first | exact wkE | refine wkS ?_ | refine wkN ?_)) (List.Sublist.refl _) ?_
                          refine ws_nil ?_
                          exact ⟨rfl, _, _, hg7, rfl⟩
              | some w8 =>
                refine ws_if ?_
                refine wt_cmp ?_ (nomark _)
                refine we_cut (Φ0 := fun d9 M9 => d9 = .str w8 ∧ M9 = dlT tb l l2 gs7 m7) (we_lam (k := 8) (hWord _ rfl rfl) 2 rfl dlT_tab TB hcd (hr.mono (by decide)) (fun A9 o9 s9 H9 E9 f9 c9 hr9 => ?_)) ?_
                · skip
                  refine wxm hSee (hr9.mono (by decide)) ?_
                  refine wa_cons ?_
                  refine we_ix ?_ (fun _ _ => rfl)
                  refine wv 11 rfl ?_
                  refine we_int ?_
                  refine ix_tup (j := 0) rfl rfl ?_
                  refine wa_cons ?_
                  refine we_ix ?_ (fun _ _ => rfl)
                  refine wv 12 rfl ?_
                  refine we_int ?_
                  refine ix_tup (j := 0) rfl rfl ?_
                  refine wa_cons ?_
                  refine we_ix ?_ (fun _ _ => rfl)
                  refine wv 13 rfl ?_
                  refine we_int ?_
                  refine ix_tup (j := 0) rfl rfl ?_
                  refine wa_nil ?_
                  intro l9
                  refine ⟨l9, v4, v5, v6, b4, b5, b6, _, rfl, rfl, qv4, qv5, qv6, fun w9 hw9 => ?_, fun hw9 fs9 => ?_⟩
                  · cases hw1.symm.trans hw9
                    exact ⟨_, _, rfl, w8, rfl, rfl, rfl, rfl⟩
                  · cases hw1.symm.trans hw9
                rintro d9 M9 ⟨rfl, rfl⟩
                refine wcf hDue (hr.mono (by decide)) ?_
                refine wa_cons ?_
                refine we_lst ?_
                refine wa_cons ?_
                refine we_str ?_
                refine wa_cons ?_
                refine we_str ?_
                refine wa_cons ?_
                refine we_str ?_
                refine wa_nil ?_
                refine ⟨(by walk_at "size"), ?_⟩
                refine wa_cons ?_
                refine wv 15 rfl ?_
                refine wa_nil ?_
                refine ⟨[("mark", b4), ("rows", b5), ("others", b6)], rfl, of_decide_eq_true rfl, ?_⟩
                rw [hw1, show optW (some w8) = .str w8 from rfl]
                refine od_neS ?_
                rw [decide_eq_true rfl]
                refine ⟨_, rfl, ?_⟩
                refine ⟨fun hb => ?_, fun hb => ?_⟩
                · walk_at "dead"
                · walk_at "tidy"
                  refine ws_nil ?_
                  cases hw1 : firstW [("test", b3), ("rows", b7)] with
                  | none =>
                    refine ws_if ?_
                    refine wt_cmp ?_ (nomark _)
                    refine we_cut (Φ0 := fun d9 M9 => d9 = D.non ∧ M9 = dlT tb l l2 gs7 m7) (we_lam (k := 8) (hWord _ rfl rfl) 2 rfl dlT_tab TB hcd (hr.mono (by decide)) (fun A9 o9 s9 H9 E9 f9 c9 hr9 => ?_)) ?_
                    · skip
                      refine wxm hWhi (hr9.mono (by decide)) ?_
                      refine wa_cons ?_
                      refine we_ix ?_ (fun _ _ => rfl)
                      refine wv 10 rfl ?_
                      refine we_int ?_
                      refine ix_tup (j := 0) rfl rfl ?_
                      refine wa_cons ?_
                      refine we_ix ?_ (fun _ _ => rfl)
                      refine wv 14 rfl ?_
                      refine we_int ?_
                      refine ix_tup (j := 0) rfl rfl ?_
                      refine wa_nil ?_
                      intro l9
                      refine ⟨l9, v3, v7, b3, b7, _, rfl, rfl, qv3, qv7, fun w9 hw9 => ?_, fun hw9 fs9 => ?_⟩
                      · cases hw1.symm.trans hw9
                      · exact ⟨rfl, fs9, _, rfl, rfl, rfl⟩
                    rintro d9 M9 ⟨rfl, rfl⟩
                    refine wcf hDue (hr.mono (by decide)) ?_
                    refine wa_cons ?_
                    refine we_lst ?_
                    refine wa_cons ?_
                    refine we_str ?_
                    refine wa_cons ?_
                    refine we_str ?_
                    refine wa_nil ?_
                    refine ⟨(by walk_at "size"), ?_⟩
                    refine wa_cons ?_
                    refine we_lst ?_
                    refine wa_cons ?_
                    refine we_ix ?_ (fun _ _ => rfl)
                    refine wv 10 rfl ?_
                    refine we_int ?_
                    refine ix_tup (j := 1) rfl rfl ?_
                    refine wa_cons ?_
                    refine we_ix ?_ (fun _ _ => rfl)
                    refine wv 14 rfl ?_
                    refine we_int ?_
                    refine ix_tup (j := 1) rfl rfl ?_
                    refine wa_nil ?_
                    refine ⟨(by walk_at "size"), ?_⟩
                    refine wa_nil ?_
                    refine ⟨[("test", b3), ("rows", b7)], rfl, of_decide_eq_true rfl, ?_⟩
                    rw [hw1, show optW none = D.non from rfl]
                    refine od_neSame hr.units rfl rfl ?_
                    refine ⟨_, rfl, ?_⟩
                    refine ⟨fun hb => ?_, fun hb => ?_⟩
                    · walk_at "dead"
                    · walk_at "tidy"
                      refine ws_nil ?_
                      cases hw1 : firstW [("room", b4)] with
                      | none =>
                        refine ws_if ?_
                        refine wt_cmp ?_ (nomark _)
                        refine we_cut (Φ0 := fun d9 M9 => d9 = D.non ∧ M9 = dlT tb l l2 gs7 m7) (we_lam (k := 8) (hWord _ rfl rfl) 2 rfl dlT_tab TB hcd (hr.mono (by decide)) (fun A9 o9 s9 H9 E9 f9 c9 hr9 => ?_)) ?_
                        · skip
                          refine wxm hStop (hr9.mono (by decide)) ?_
                          refine wa_cons ?_
                          refine we_ix ?_ (fun _ _ => rfl)
                          refine wv 11 rfl ?_
                          refine we_int ?_
                          refine ix_tup (j := 0) rfl rfl ?_
                          refine wa_nil ?_
                          intro l9
                          refine ⟨l9, v4, b4, _, rfl, rfl, qv4, fun w9 hw9 => ?_, fun hw9 fs9 => ?_⟩
                          · cases hw1.symm.trans hw9
                          · exact ⟨rfl, fs9, _, rfl, rfl, rfl⟩
                        rintro d9 M9 ⟨rfl, rfl⟩
                        refine wcf hDue (hr.mono (by decide)) ?_
                        refine wa_cons ?_
                        refine we_lst ?_
                        refine wa_cons ?_
                        refine we_str ?_
                        refine wa_nil ?_
                        refine ⟨(by walk_at "size"), ?_⟩
                        refine wa_cons ?_
                        refine we_lst ?_
                        refine wa_cons ?_
                        refine we_ix ?_ (fun _ _ => rfl)
                        refine wv 11 rfl ?_
                        refine we_int ?_
                        refine ix_tup (j := 1) rfl rfl ?_
                        refine wa_nil ?_
                        refine ⟨(by walk_at "size"), ?_⟩
                        refine wa_nil ?_
                        refine ⟨[("room", b4)], rfl, of_decide_eq_true rfl, ?_⟩
                        rw [hw1, show optW none = D.non from rfl]
                        refine od_neSame hr.units rfl rfl ?_
                        refine ⟨_, rfl, ?_⟩
                        refine ⟨fun hb => ?_, fun hb => ?_⟩
                        · walk_at "dead"
                        · walk_at "tidy"
                          refine ws_nil ?_
                          refine ws_wk (Γ' := [some (.lst (ns.map .int)), some (.adr l), some (.obj c.go f1), some (.obj c.stop f2), some (.lst (seqS c f1 f2 f3)), some (.lst (badS c f1 f2)), none, none, none, none, none, none, none, none, none, none]) (M' := _) (by repeat (first | exact wkE | refine wkS ?_ | refine wkN ?_)) (List.Sublist.refl _) ?_
                          refine ws_nil ?_
                          exact ⟨rfl, _, _, hg7, rfl⟩
                      | some w8 =>
                        refine ws_if ?_
                        refine wt_cmp ?_ (nomark _)
                        refine we_cut (Φ0 := fun d9 M9 => d9 = .str w8 ∧ M9 = dlT tb l l2 gs7 m7) (we_lam (k := 8) (hWord _ rfl rfl) 2 rfl dlT_tab TB hcd (hr.mono (by decide)) (fun A9 o9 s9 H9 E9 f9 c9 hr9 => ?_)) ?_
                        · skip
                          refine wxm hStop (hr9.mono (by decide)) ?_
                          refine wa_cons ?_
                          refine we_ix ?_ (fun _ _ => rfl)
                          refine wv 11 rfl ?_
                          refine we_int ?_
                          refine ix_tup (j := 0) rfl rfl ?_
                          refine wa_nil ?_
                          intro l9
                          refine ⟨l9, v4, b4, _, rfl, rfl, qv4, fun w9 hw9 => ?_, fun hw9 fs9 => ?_⟩
                          · cases hw1.symm.trans hw9
                            exact ⟨_, _, rfl, w8, rfl, rfl, rfl, rfl⟩
                          · cases hw1.symm.trans hw9
                        rintro d9 M9 ⟨rfl, rfl⟩
                        refine wcf hDue (hr.mono (by decide)) ?_
                        refine wa_cons ?_
                        refine we_lst ?_
                        refine wa_cons ?_
                        refine we_str ?_
                        refine wa_nil ?_
                        refine ⟨(by walk_at "size"), ?_⟩
                        refine wa_cons ?_
                        refine we_lst ?_
                        refine wa_cons ?_
                        refine we_ix ?_ (fun _ _ => rfl)
                        refine wv 11 rfl ?_
                        refine we_int ?_
                        refine ix_tup (j := 1) rfl rfl ?_
                        refine wa_nil ?_
                        refine ⟨(by walk_at "size"), ?_⟩
                        refine wa_nil ?_
                        refine ⟨[("room", b4)], rfl, of_decide_eq_true rfl, ?_⟩
                        rw [hw1, show optW (some w8) = .str w8 from rfl]
                        refine od_neS ?_
                        rw [decide_eq_true rfl]
                        refine ⟨_, rfl, ?_⟩
                        refine ⟨fun hb => ?_, fun hb => ?_⟩
                        · walk_at "dead"
                        · walk_at "tidy"
                          refine ws_nil ?_
                          refine ws_wk (Γ' := [some (.lst (ns.map .int)), some (.adr l), some (.obj c.go f1), some (.obj c.stop f2), some (.lst (seqS c f1 f2 f3)), some (.lst (badS c f1 f2)), none, none, none, none, none, none, none, none, none, none]) (M' := _) (by repeat (first | exact wkE | refine wkS ?_ | refine wkN ?_)) (List.Sublist.refl _) ?_
                          refine ws_nil ?_
                          exact ⟨rfl, _, _, hg7, rfl⟩
                  | some w8 =>
                    refine ws_if ?_
                    refine wt_cmp ?_ (nomark _)
                    refine we_cut (Φ0 := fun d9 M9 => d9 = .str w8 ∧ M9 = dlT tb l l2 gs7 m7) (we_lam (k := 8) (hWord _ rfl rfl) 2 rfl dlT_tab TB hcd (hr.mono (by decide)) (fun A9 o9 s9 H9 E9 f9 c9 hr9 => ?_)) ?_
                    · skip
                      refine wxm hWhi (hr9.mono (by decide)) ?_
                      refine wa_cons ?_
                      refine we_ix ?_ (fun _ _ => rfl)
                      refine wv 10 rfl ?_
                      refine we_int ?_
                      refine ix_tup (j := 0) rfl rfl ?_
                      refine wa_cons ?_
                      refine we_ix ?_ (fun _ _ => rfl)
                      refine wv 14 rfl ?_
                      refine we_int ?_
                      refine ix_tup (j := 0) rfl rfl ?_
                      refine wa_nil ?_
                      intro l9
                      refine ⟨l9, v3, v7, b3, b7, _, rfl, rfl, qv3, qv7, fun w9 hw9 => ?_, fun hw9 fs9 => ?_⟩
                      · cases hw1.symm.trans hw9
                        exact ⟨_, _, rfl, w8, rfl, rfl, rfl, rfl⟩
                      · cases hw1.symm.trans hw9
                    rintro d9 M9 ⟨rfl, rfl⟩
                    refine wcf hDue (hr.mono (by decide)) ?_
                    refine wa_cons ?_
                    refine we_lst ?_
                    refine wa_cons ?_
                    refine we_str ?_
                    refine wa_cons ?_
                    refine we_str ?_
                    refine wa_nil ?_
                    refine ⟨(by walk_at "size"), ?_⟩
                    refine wa_cons ?_
                    refine we_lst ?_
                    refine wa_cons ?_
                    refine we_ix ?_ (fun _ _ => rfl)
                    refine wv 10 rfl ?_
                    refine we_int ?_
                    refine ix_tup (j := 1) rfl rfl ?_
                    refine wa_cons ?_
                    refine we_ix ?_ (fun _ _ => rfl)
                    refine wv 14 rfl ?_
                    refine we_int ?_
                    refine ix_tup (j := 1) rfl rfl ?_
                    refine wa_nil ?_
                    refine ⟨(by walk_at "size"), ?_⟩
                    refine wa_nil ?_
                    refine ⟨[("test", b3), ("rows", b7)], rfl, of_decide_eq_true rfl, ?_⟩
                    rw [hw1, show optW (some w8) = .str w8 from rfl]
                    refine od_neS ?_
                    rw [decide_eq_true rfl]
                    refine ⟨_, rfl, ?_⟩
                    refine ⟨fun hb => ?_, fun hb => ?_⟩
                    · walk_at "dead"
                    · walk_at "tidy"
                      refine ws_nil ?_
                      cases hw1 : firstW [("room", b4)] with
                      | none =>
                        refine ws_if ?_
                        refine wt_cmp ?_ (nomark _)
                        refine we_cut (Φ0 := fun d9 M9 => d9 = D.non ∧ M9 = dlT tb l l2 gs7 m7) (we_lam (k := 8) (hWord _ rfl rfl) 2 rfl dlT_tab TB hcd (hr.mono (by decide)) (fun A9 o9 s9 H9 E9 f9 c9 hr9 => ?_)) ?_
                        · skip
                          refine wxm hStop (hr9.mono (by decide)) ?_
                          refine wa_cons ?_
                          refine we_ix ?_ (fun _ _ => rfl)
                          refine wv 11 rfl ?_
                          refine we_int ?_
                          refine ix_tup (j := 0) rfl rfl ?_
                          refine wa_nil ?_
                          intro l9
                          refine ⟨l9, v4, b4, _, rfl, rfl, qv4, fun w9 hw9 => ?_, fun hw9 fs9 => ?_⟩
                          · cases hw1.symm.trans hw9
                          · exact ⟨rfl, fs9, _, rfl, rfl, rfl⟩
                        rintro d9 M9 ⟨rfl, rfl⟩
                        refine wcf hDue (hr.mono (by decide)) ?_
                        refine wa_cons ?_
                        refine we_lst ?_
                        refine wa_cons ?_
                        refine we_str ?_
                        refine wa_nil ?_
                        refine ⟨(by walk_at "size"), ?_⟩
                        refine wa_cons ?_
                        refine we_lst ?_
                        refine wa_cons ?_
                        refine we_ix ?_ (fun _ _ => rfl)
                        refine wv 11 rfl ?_
                        refine we_int ?_
                        refine ix_tup (j := 1) rfl rfl ?_
                        refine wa_nil ?_
                        refine ⟨(by walk_at "size"), ?_⟩
                        refine wa_nil ?_
                        refine ⟨[("room", b4)], rfl, of_decide_eq_true rfl, ?_⟩
                        rw [hw1, show optW none = D.non from rfl]
                        refine od_neSame hr.units rfl rfl ?_
                        refine ⟨_, rfl, ?_⟩
                        refine ⟨fun hb => ?_, fun hb => ?_⟩
                        · walk_at "dead"
                        · walk_at "tidy"
                          refine ws_nil ?_
                          refine ws_wk (Γ' := [some (.lst (ns.map .int)), some (.adr l), some (.obj c.go f1), some (.obj c.stop f2), some (.lst (seqS c f1 f2 f3)), some (.lst (badS c f1 f2)), none, none, none, none, none, none, none, none, none, none]) (M' := _) (by repeat (first | exact wkE | refine wkS ?_ | refine wkN ?_)) (List.Sublist.refl _) ?_
                          refine ws_nil ?_
                          exact ⟨rfl, _, _, hg7, rfl⟩
                      | some w8 =>
                        refine ws_if ?_
                        refine wt_cmp ?_ (nomark _)
                        refine we_cut (Φ0 := fun d9 M9 => d9 = .str w8 ∧ M9 = dlT tb l l2 gs7 m7) (we_lam (k := 8) (hWord _ rfl rfl) 2 rfl dlT_tab TB hcd (hr.mono (by decide)) (fun A9 o9 s9 H9 E9 f9 c9 hr9 => ?_)) ?_
                        · skip
                          refine wxm hStop (hr9.mono (by decide)) ?_
                          refine wa_cons ?_
                          refine we_ix ?_ (fun _ _ => rfl)
                          refine wv 11 rfl ?_
                          refine we_int ?_
                          refine ix_tup (j := 0) rfl rfl ?_
                          refine wa_nil ?_
                          intro l9
                          refine ⟨l9, v4, b4, _, rfl, rfl, qv4, fun w9 hw9 => ?_, fun hw9 fs9 => ?_⟩
                          · cases hw1.symm.trans hw9
                            exact ⟨_, _, rfl, w8, rfl, rfl, rfl, rfl⟩
                          · cases hw1.symm.trans hw9
                        rintro d9 M9 ⟨rfl, rfl⟩
                        refine wcf hDue (hr.mono (by decide)) ?_
                        refine wa_cons ?_
                        refine we_lst ?_
                        refine wa_cons ?_
                        refine we_str ?_
                        refine wa_nil ?_
                        refine ⟨(by walk_at "size"), ?_⟩
                        refine wa_cons ?_
                        refine we_lst ?_
                        refine wa_cons ?_
                        refine we_ix ?_ (fun _ _ => rfl)
                        refine wv 11 rfl ?_
                        refine we_int ?_
                        refine ix_tup (j := 1) rfl rfl ?_
                        refine wa_nil ?_
                        refine ⟨(by walk_at "size"), ?_⟩
                        refine wa_nil ?_
                        refine ⟨[("room", b4)], rfl, of_decide_eq_true rfl, ?_⟩
                        rw [hw1, show optW (some w8) = .str w8 from rfl]
                        refine od_neS ?_
                        rw [decide_eq_true rfl]
                        refine ⟨_, rfl, ?_⟩
                        refine ⟨fun hb => ?_, fun hb => ?_⟩
                        · walk_at "dead"
                        · walk_at "tidy"
                          refine ws_nil ?_
                          refine ws_wk (Γ' := [some (.lst (ns.map .int)), some (.adr l), some (.obj c.go f1), some (.obj c.stop f2), some (.lst (seqS c f1 f2 f3)), some (.lst (badS c f1 f2)), none, none, none, none, none, none, none, none, none, none]) (M' := _) (by repeat (first | exact wkE | refine wkS ?_ | refine wkN ?_)) (List.Sublist.refl _) ?_
                          refine ws_nil ?_
                          exact ⟨rfl, _, _, hg7, rfl⟩
    · rintro Γ' M' ⟨rfl, gs, m, hg, rfl⟩
      refine ws_ret ?_
      refine we_bl ?_
      exact qq _
end
end Sl57
set_option Elab.async false
set_option linter.all false
set_option maxRecDepth 100000
set_option maxHeartbeats 0
namespace Sl57
open PySem PySem.Spec PyProof.Rows L2 Dt
theorem law_startT {K : Fg} {H : Hp} {a tb : Addr} {ns : List Int} (hl : ns.length ≤ 63) (hT : H tb = some (.tbl #[])) (hS : SqL K H a (ns.map V.int)) : spOf K (S_law tb) [.ref a] H (fun v _ => v = .bl true) fun _ _ _ => False :=
  ⟨noT H, [(tb, .tab (lamQ "law") emp)], [.lst (ns.map .int)], fun d _ => d = .bl true, .cons (.lst (sql_noT hS) (IsDs.ints (K := K) (P := noT H) ns).1 (IsDs.ints (K := K) (P := noT H) ns).2) .nil, mok_tab hT, ⟨ns, rfl, hl, rfl, fun _ => rfl⟩, fun v H' ⟨d, M', P', e, _, _, i⟩ => by
    subst e
    cases i
    rfl⟩
theorem facts {P : Program} {w : World} {K : Fg} {h : Heap} {mg : Str → Option Value} {f : Addr} (hP : P = Pg) (X : K.In h) (G : h.Ns mainGlobals mg) (hfa : mg ("law" : Str) = some (.ref f)) (cq : ToldQ fa fn fx ex K) :
    ∃ fd : FuncData, (∀ (s : Shared) (v : Value), BindsTo s fd ⟨[v], []⟩ [("_law_script", v)]) ∧ ∀ base : Heap, K.In base → base.Ns mainGlobals mg → LamX.TabB base mg (He.cT K ("law", none)).1 (He.cT K ("law", none)).2 → FnOk P w K mg base CX0 13 f fd ["_law_script"] (spOf K (S_law (He.cT K ("law", none)).2)) := by
  have c := cq.told
  have B : Bf mg := ⟨He.free_ok X G (c.fact (.free "len") (List.mem_of_getElem? (i := 50) rfl)), He.free_ok X G (c.fact (.free "all") (List.mem_of_getElem? (i := 51) rfl)), He.free_ok X G (c.fact (.free "any") (List.mem_of_getElem? (i := 52) rfl)), He.free_ok X G (c.fact (.free "isinstance") (List.mem_of_getElem? (i := 53) rfl)), He.free_ok X G (c.fact (.free "int") (List.mem_of_getElem? (i := 54) rfl)), He.free_ok X G (c.fact (.free "bool") (List.mem_of_getElem? (i := 55) rfl)), He.free_ok X G (c.fact (.free "str") (List.mem_of_getElem? (i := 56) rfl)), He.free_ok X G (c.fact (.free "tuple") (List.mem_of_getElem? (i := 57) rfl)), He.free_ok X G (c.fact (.free "list") (List.mem_of_getElem? (i := 58) rfl)), He.free_ok X G (c.fact (.free "range") (List.mem_of_getElem? (i := 59) rfl)), He.free_ok X G (c.fact (.free "enumerate") (List.mem_of_getElem? (i := 60) rfl)), He.free_ok X G (c.fact (.free "zip") (List.mem_of_getElem? (i := 61) rfl)), He.free_ok X G (c.fact (.free "abs") (List.mem_of_getElem? (i := 62) rfl)), He.free_ok X G (c.fact (.free "max") (List.mem_of_getElem? (i := 63) rfl)), He.free_ok X G (c.fact (.free "min") (List.mem_of_getElem? (i := 64) rfl)), He.free_ok X G (c.fact (.free "sum") (List.mem_of_getElem? (i := 65) rfl)), He.free_ok X G (c.fact (.free "sorted") (List.mem_of_getElem? (i := 66) rfl)), He.free_ok X G (c.fact (.free "repr") (List.mem_of_getElem? (i := 67) rfl)), He.free_ok X G (c.fact (.free "set") (List.mem_of_getElem? (i := 68) rfl))⟩
  obtain ⟨fd_Ldeal, F0_Ldeal⟩ := c.defn _ (List.mem_of_getElem? (i := 0) rfl)
  have F_Ldeal : FunD K "_law_deal" "_law_deal" (defArgs s_Ldeal) (defBody s_Ldeal) (defScope s_Ldeal) [] [] (locG "_law_deal" K) fd_Ldeal := F0_Ldeal
  have b_Ldeal := FunD.bindsN (ps := ["_law_script"]) F_Ldeal fun _ _ _ _ _ _ us hl => match us, hl with | [_], _ => rfl
  obtain ⟨fd_Ldraw, F0_Ldraw⟩ := c.defn _ (List.mem_of_getElem? (i := 1) rfl)
  have F_Ldraw : FunD K "_law_draw" "_law_draw" (defArgs s_Ldraw) (defBody s_Ldraw) (defScope s_Ldraw) [] [] (locG "_law_draw" K) fd_Ldraw := F0_Ldraw
  have b_Ldraw := FunD.bindsN (ps := ["_law_deal_here", "_law_many"]) F_Ldraw fun _ _ _ _ _ _ us hl => match us, hl with | [_, _], _ => rfl
  obtain ⟨fd_Lpick, F0_Lpick⟩ := c.defn _ (List.mem_of_getElem? (i := 2) rfl)
  have F_Lpick : FunD K "_law_pick" "_law_pick" (defArgs s_Lpick) (defBody s_Lpick) (defScope s_Lpick) [] [] (locG "_law_pick" K) fd_Lpick := F0_Lpick
  have b_Lpick := FunD.bindsN (ps := ["_law_deal_here", "_law_some_here"]) F_Lpick fun _ _ _ _ _ _ us hl => match us, hl with | [_, _], _ => rfl
  obtain ⟨fd_is_integer, F0_is_integer⟩ := c.defn _ (List.mem_of_getElem? (i := 3) rfl)
  have F_is_integer : FunD K "is_integer" "is_integer" (defArgs s_is_integer) (defBody s_is_integer) (defScope s_is_integer) [] [] (locG "is_integer" K) fd_is_integer := F0_is_integer
  have b_is_integer := FunD.bindsN (ps := ["value"]) F_is_integer fun _ _ _ _ _ _ us hl => match us, hl with | [_], _ => rfl
  have hWG : WG K mg := ⟨He.int_ok X G (c.fact (.int "MOST_LETTERS" 6) (List.mem_of_getElem? (i := 4) rfl)), He.str_ok X G (c.fact (.str "LETTERS" letS) (List.mem_of_getElem? (i := 5) rfl)), ⟨_, He.glo_ok X G (c.fact (.glo "ROW_WORDS") (List.mem_of_getElem? (i := 6) rfl)), fun H => He.tupB_ok (ex_0 c.more) H⟩, ⟨_, He.glo_ok X G (c.fact (.glo "FAULTS") (List.mem_of_getElem? (i := 7) rfl)), fun H => He.tupB_ok (ex_1 c.more) H⟩⟩
  obtain ⟨fd_is_name, F0_is_name⟩ := c.defn _ (List.mem_of_getElem? (i := 4) rfl)
  have F_is_name : FunD K "is_name" "is_name" (defArgs s_is_name) (defBody s_is_name) (defScope s_is_name) [] [] (locG "is_name" K) fd_is_name := F0_is_name
  have b_is_name := FunD.bindsN (ps := ["value"]) F_is_name fun _ _ _ _ _ _ us hl => match us, hl with | [_], _ => rfl
  have hDg : ∃ t, mg "DIGITS" = some (.str digS t) := He.str_ok X G (c.fact (.str "DIGITS" digS) (List.mem_of_getElem? (i := 9) rfl))
  obtain ⟨fd_number_in, F0_number_in⟩ := c.defn _ (List.mem_of_getElem? (i := 5) rfl)
  have F_number_in : FunD K "number_in" "number_in" (defArgs s_number_in) (defBody s_number_in) (defScope s_number_in) [] [] (locG "number_in" K) fd_number_in := F0_number_in
  have b_number_in := FunD.bindsN (ps := ["text"]) F_number_in fun _ _ _ _ _ _ us hl => match us, hl with | [_], _ => rfl
  obtain ⟨fd_is_test, F0_is_test⟩ := c.defn _ (List.mem_of_getElem? (i := 6) rfl)
  have F_is_test : FunD K "is_test" "is_test" (defArgs s_is_test) (defBody s_is_test) (defScope s_is_test) [] [] (locG "is_test" K) fd_is_test := F0_is_test
  have b_is_test := FunD.bindsN (ps := ["value"]) F_is_test fun _ _ _ _ _ _ us hl => match us, hl with | [_], _ => rfl
  obtain ⟨fd_is_sequence, F0_is_sequence⟩ := c.defn _ (List.mem_of_getElem? (i := 7) rfl)
  have F_is_sequence : FunD K "is_sequence" "is_sequence" (defArgs s_is_sequence) (defBody s_is_sequence) (defScope s_is_sequence) [] [] (locG "is_sequence" K) fd_is_sequence := F0_is_sequence
  have b_is_sequence := FunD.bindsN (ps := ["value"]) F_is_sequence fun _ _ _ _ _ _ us hl => match us, hl with | [_], _ => rfl
  have hC : RwC K (⟨He.ga K "Go", He.ga K "Stop", He.ga K "While", He.ga K "If", He.ga K "See"⟩ : Cs) := ⟨He.cls_ok (c.fact (.cls "Go") (List.mem_of_getElem? (i := 13) rfl)), He.noat_ok (c.fact (.noat "Go" "way") (List.mem_of_getElem? (i := 14) rfl)), He.noat_ok (c.fact (.noat "Go" "steps") (List.mem_of_getElem? (i := 15) rfl)), He.cls_ok (c.fact (.cls "Stop") (List.mem_of_getElem? (i := 16) rfl)), He.noat_ok (c.fact (.noat "Stop" "room") (List.mem_of_getElem? (i := 17) rfl)), He.cls_ok (c.fact (.cls "While") (List.mem_of_getElem? (i := 18) rfl)), He.noat_ok (c.fact (.noat "While" "test") (List.mem_of_getElem? (i := 19) rfl)), He.noat_ok (c.fact (.noat "While" "rows") (List.mem_of_getElem? (i := 20) rfl)), He.cls_ok (c.fact (.cls "If") (List.mem_of_getElem? (i := 21) rfl)), He.noat_ok (c.fact (.noat "If" "test") (List.mem_of_getElem? (i := 22) rfl)), He.noat_ok (c.fact (.noat "If" "rows") (List.mem_of_getElem? (i := 23) rfl)), He.noat_ok (c.fact (.noat "If" "others") (List.mem_of_getElem? (i := 24) rfl)), He.cls_ok (c.fact (.cls "See") (List.mem_of_getElem? (i := 25) rfl)), He.noat_ok (c.fact (.noat "See" "mark") (List.mem_of_getElem? (i := 26) rfl)), He.noat_ok (c.fact (.noat "See" "rows") (List.mem_of_getElem? (i := 27) rfl)), He.noat_ok (c.fact (.noat "See" "others") (List.mem_of_getElem? (i := 28) rfl))⟩
  have hI_Go : IsF K (He.ga K "Go") := isB_ok (He.cls_ok (c.fact (.cls "Go") (List.mem_of_getElem? (i := 13) rfl))) (ex_2 c.more)
  have hI_Stop : IsF K (He.ga K "Stop") := isB_ok (He.cls_ok (c.fact (.cls "Stop") (List.mem_of_getElem? (i := 16) rfl))) (ex_4 c.more)
  have hI_While : IsF K (He.ga K "While") := isB_ok (He.cls_ok (c.fact (.cls "While") (List.mem_of_getElem? (i := 18) rfl))) (ex_6 c.more)
  have hI_If : IsF K (He.ga K "If") := isB_ok (He.cls_ok (c.fact (.cls "If") (List.mem_of_getElem? (i := 21) rfl))) (ex_8 c.more)
  have hI_See : IsF K (He.ga K "See") := isB_ok (He.cls_ok (c.fact (.cls "See") (List.mem_of_getElem? (i := 25) rfl))) (ex_10 c.more)
  have hI : RwI K (⟨He.ga K "Go", He.ga K "Stop", He.ga K "While", He.ga K "If", He.ga K "See"⟩ : Cs) (He.ga K "Row") := ⟨hI_Go, of_decide_eq_true (ex_3 c.more), hI_Stop, of_decide_eq_true (ex_5 c.more), hI_While, of_decide_eq_true (ex_7 c.more), hI_If, of_decide_eq_true (ex_9 c.more), hI_See, of_decide_eq_true (ex_11 c.more)⟩
  have hmR : mg "Row" = some (.ref (He.ga K "Row")) := He.glo_ok X G (c.fact (.glo "Row") (List.mem_of_getElem? (i := 29) rfl))
  have hmG : mg "Go" = some (.ref (He.ga K "Go")) := He.glo_ok X G (c.fact (.glo "Go") (List.mem_of_getElem? (i := 30) rfl))
  have hPG : PG2 K mg := ⟨He.int_ok X G (c.fact (.int "MOST_STEPS" 9) (List.mem_of_getElem? (i := 31) rfl)), ⟨_, He.glo_ok X G (c.fact (.glo "WAYS") (List.mem_of_getElem? (i := 32) rfl)), fun H => He.tupB_ok (ex_12 c.more) H⟩⟩
  obtain ⟨fd_are_rows, F0_are_rows⟩ := c.defn _ (List.mem_of_getElem? (i := 8) rfl)
  have F_are_rows : FunD K "are_rows" "are_rows" (defArgs s_are_rows) (defBody s_are_rows) (defScope s_are_rows) [] [] (locG "are_rows" K) fd_are_rows := F0_are_rows
  have b_are_rows := FunD.bindsN (ps := ["value"]) F_are_rows fun _ _ _ _ _ _ us hl => match us, hl with | [_], _ => rfl
  obtain ⟨fd_Go_init, F0_Go_init⟩ := c.defn _ (List.mem_of_getElem? (i := 9) rfl)
  have F_Go_init : FunD K "__init__" "Go.__init__" (defArgs s_Go_init) (defBody s_Go_init) (defScope s_Go_init) [] [] (locM "Go" "__init__" K) fd_Go_init := F0_Go_init
  have b_Go_init := FunD.bindsN (ps := ["self", "way", "steps"]) F_Go_init fun _ _ _ _ _ _ us hl => match us, hl with | [_, _, _], _ => rfl
  obtain ⟨fd_Stop_init, F0_Stop_init⟩ := c.defn _ (List.mem_of_getElem? (i := 10) rfl)
  have F_Stop_init : FunD K "__init__" "Stop.__init__" (defArgs s_Stop_init) (defBody s_Stop_init) (defScope s_Stop_init) [] [] (locM "Stop" "__init__" K) fd_Stop_init := F0_Stop_init
  have b_Stop_init := FunD.bindsN (ps := ["self", "room"]) F_Stop_init fun _ _ _ _ _ _ us hl => match us, hl with | [_, _], _ => rfl
  obtain ⟨fd_If_init, F0_If_init⟩ := c.defn _ (List.mem_of_getElem? (i := 11) rfl)
  have F_If_init : FunD K "__init__" "If.__init__" (defArgs s_If_init) (defBody s_If_init) (defScope s_If_init) [V.ref (He.dflAt ("If", some "__init__") 0 K)] [] (locM "If" "__init__" K) fd_If_init := F0_If_init
  have b0_If_init := FunD.binds1 (ps := ["self", "test", "rows", "others"]) F_If_init 3 0 (by simp) rfl fun _ _ _ _ _ _ _ us its hu hi => match us, hu, its, hi with | [_, _, _], _, [_], _ => ⟨_, rfl, rfl⟩
  have b1_If_init := FunD.binds1 (ps := ["self", "test", "rows", "others"]) F_If_init 4 1 (by simp) rfl fun _ _ _ _ _ _ _ us its hu hi => match us, hu, its, hi with | [_, _, _, _], _, [_], _ => ⟨_, rfl, rfl⟩
  have b_If_init : Binds K fd_If_init ["self", "test", "rows", "others"] [] := by
    obtain ⟨ds, hv, hb⟩ := b1_If_init
    cases hv
    exact hb
  obtain ⟨fd_See_init, F0_See_init⟩ := c.defn _ (List.mem_of_getElem? (i := 12) rfl)
  have F_See_init : FunD K "__init__" "See.__init__" (defArgs s_See_init) (defBody s_See_init) (defScope s_See_init) [V.ref (He.dflAt ("See", some "__init__") 0 K)] [] (locM "See" "__init__" K) fd_See_init := F0_See_init
  have b0_See_init := FunD.binds1 (ps := ["self", "mark", "rows", "others"]) F_See_init 3 0 (by simp) rfl fun _ _ _ _ _ _ _ us its hu hi => match us, hu, its, hi with | [_, _, _], _, [_], _ => ⟨_, rfl, rfl⟩
  have b1_See_init := FunD.binds1 (ps := ["self", "mark", "rows", "others"]) F_See_init 4 1 (by simp) rfl fun _ _ _ _ _ _ _ us its hu hi => match us, hu, its, hi with | [_, _, _, _], _, [_], _ => ⟨_, rfl, rfl⟩
  have b_See_init : Binds K fd_See_init ["self", "mark", "rows", "others"] [] := by
    obtain ⟨ds, hv, hb⟩ := b1_See_init
    cases hv
    exact hb
  obtain ⟨fd_While_init, F0_While_init⟩ := c.defn _ (List.mem_of_getElem? (i := 13) rfl)
  have F_While_init : FunD K "__init__" "While.__init__" (defArgs s_While_init) (defBody s_While_init) (defScope s_While_init) [] [] (locM "While" "__init__" K) fd_While_init := F0_While_init
  have b_While_init := FunD.bindsN (ps := ["self", "test", "rows"]) F_While_init fun _ _ _ _ _ _ us hl => match us, hl with | [_, _, _], _ => rfl
  obtain ⟨fd_Lsome, F0_Lsome⟩ := c.defn _ (List.mem_of_getElem? (i := 14) rfl)
  have F_Lsome : FunD K "_law_some" "_law_some" (defArgs s_Lsome) (defBody s_Lsome) (defScope s_Lsome) [] [] (locG "_law_some" K) fd_Lsome := F0_Lsome
  have b_Lsome := FunD.bindsN (ps := ["_law_deal_here", "_law_right", "_law_bads"]) F_Lsome fun _ _ _ _ _ _ us hl => match us, hl with | [_, _, _], _ => rfl
  obtain ⟨fd_Ldue, F0_Ldue⟩ := c.defn _ (List.mem_of_getElem? (i := 15) rfl)
  have F_Ldue : FunD K "_law_due" "_law_due" (defArgs s_Ldue) (defBody s_Ldue) (defScope s_Ldue) [] [] (locG "_law_due" K) fd_Ldue := F0_Ldue
  have b_Ldue := FunD.bindsN (ps := ["_law_words", "_law_goods"]) F_Ldue fun _ _ _ _ _ _ us hl => match us, hl with | [_, _], _ => rfl
  have hNo : NoR K (⟨He.ga K "Go", He.ga K "Stop", He.ga K "While", He.ga K "If", He.ga K "See"⟩ : Cs) (He.ga K "Row") := ⟨of_decide_eq_true (ex_16 c.more), of_decide_eq_true (ex_17 c.more), of_decide_eq_true (ex_18 c.more), of_decide_eq_true (ex_19 c.more), of_decide_eq_true (ex_20 c.more), of_decide_eq_true (ex_21 c.more), of_decide_eq_true (ex_22 c.more), of_decide_eq_true (ex_23 c.more)⟩
  have hkS : PySem.W.kitOne K (.ref (He.ga K "InvalidRow")) (.ref (He.ga K "SightError")) = some true := of_decide_eq_true (ex_24 c.more)
  have hkT : PySem.W.kitOne K (.ref (He.ga K "InvalidRow")) (.ref (He.ga K "InvalidPlan")) = some false := of_decide_eq_true (ex_25 c.more)
  have hE : ErW K mg (He.ga K "InvalidRow") (He.ga K "SightError") (He.ga K "InvalidPlan") := ⟨xcB_ok (ex_26 c.more), He.exm_ok (c.fact (.exm "InvalidRow" "InvalidRow" true) (List.mem_of_getElem? (i := 46) rfl)), He.glo_ok X G (c.fact (.glo "InvalidRow") (List.mem_of_getElem? (i := 34) rfl)), He.glo_ok X G (c.fact (.glo "SightError") (List.mem_of_getElem? (i := 47) rfl)), He.glo_ok X G (c.fact (.glo "InvalidPlan") (List.mem_of_getElem? (i := 48) rfl)), hkS, hkT⟩
  obtain ⟨fd_Lword, F0_Lword⟩ := c.defn _ (List.mem_of_getElem? (i := 16) rfl)
  have F_Lword : FunD K "_law_word" "_law_word" (defArgs s_Lword) (defBody s_Lword) (defScope s_Lword) [] [] (locG "_law_word" K) fd_Lword := F0_Lword
  have b_Lword := FunD.bindsN (ps := ["_law_make"]) F_Lword fun _ _ _ _ _ _ us hl => match us, hl with | [_], _ => rfl
  have hmW : mg "_law_word" = some (.ref (locG "_law_word" K)) := He.glo_ok X G (c.fact (.glo "_law_word") (List.mem_of_getElem? (i := 49) rfl))
  obtain ⟨fd_law, F0_law⟩ := c.defn _ (List.mem_of_getElem? (i := 17) rfl)
  have F_law : FunD K "law" "law" (defArgs s_law) (defBody s_law) (defScope s_law) [] [] (locG "law" K) fd_law := F0_law
  have b_law := FunD.bindsN (ps := ["_law_script"]) F_law fun _ _ _ _ _ _ us hl => match us, hl with | [_], _ => rfl
  have e := hfa.symm.trans (He.glo_ok X G (c.fact (.glo "law") (List.mem_of_getElem? (i := 69) rfl)))
  cases e
  have b := FunD.bindsA (ps := ["_law_script"]) F_law fun _ _ _ _ _ _ us hl => match us, hl with | [_], _ => rfl
  refine ⟨fd_law, fun s v => b s [v] rfl, fun base _ _ TB => ?_⟩
  have h_Ldeal : HasFn P w K mg base 1 "_law_deal" S_deal := hasFn X G F_Ldeal b_Ldeal (c.fact (.glo "_law_deal") (List.mem_of_getElem? (i := 0) rfl)) (ok_Ldeal F_Ldeal B)
  have h_Ldraw : HasFn P w K mg base 1 "_law_draw" S_draw := hasFn X G F_Ldraw b_Ldraw (c.fact (.glo "_law_draw") (List.mem_of_getElem? (i := 1) rfl)) (ok_Ldraw F_Ldraw B)
  have h_Lpick : HasFn P w K mg base 2 "_law_pick" S_pick := hasFn X G F_Lpick b_Lpick (c.fact (.glo "_law_pick") (List.mem_of_getElem? (i := 2) rfl)) (ok_Lpick F_Lpick B h_Ldraw)
  have h_is_integer : HasFn P w K mg base 1 "is_integer" S_is_integer := hasFn X G F_is_integer b_is_integer (c.fact (.glo "is_integer") (List.mem_of_getElem? (i := 3) rfl)) (ok_is_integer F_is_integer B)
  have h_is_name : HasFn P w K mg base 1 "is_name" S_is_name := hasFn X G F_is_name b_is_name (c.fact (.glo "is_name") (List.mem_of_getElem? (i := 8) rfl)) (ok_is_name F_is_name B hWG)
  have h_numOr : HasFn P w K mg base 1 "number_in" (orS S_numIn S_numNo) := hasFn X G F_number_in b_number_in (c.fact (.glo "number_in") (List.mem_of_getElem? (i := 10) rfl)) (fn_orS (ok_number_in F_number_in B hDg) (ok_number_inN F_number_in B hDg))
  have h_is_testA : HasFn P w K mg base 2 "is_test" S_isTestA := hasFn X G F_is_test b_is_test (c.fact (.glo "is_test") (List.mem_of_getElem? (i := 11) rfl)) (ok_is_testA F_is_test B h_numOr)
  have h_is_sequence : HasFn P w K mg base 1 "is_sequence" S_is_seq := hasFn X G F_is_sequence b_is_sequence (c.fact (.glo "is_sequence") (List.mem_of_getElem? (i := 12) rfl)) (ok_is_sequence F_is_sequence B)
  have h_is_sequenceO : HasFn P w K mg base 1 "is_sequence" (S_is_seqO K) := hasFn X G F_is_sequence b_is_sequence (c.fact (.glo "is_sequence") (List.mem_of_getElem? (i := 12) rfl)) (ok_is_sequenceO F_is_sequence B)
  have h_areR : HasFn P w K mg base 2 "are_rows" (S_areR K (He.ga K "Row")) := hasFn X G F_are_rows b_are_rows (c.fact (.glo "are_rows") (List.mem_of_getElem? (i := 33) rfl)) (fn_orD (S := S_areR K (He.ga K "Row")) (fn_orD (S := fun ds M Φ => S_areN ds M Φ ∨ S_areO K ds M Φ) (ok_are_rowsQN F_are_rows B hmR h_is_sequence) (ok_are_rowsQO F_are_rows B h_is_sequenceO) (fun _ _ _ z => z)) (fn_orD (S := fun ds M Φ => S_areS K (He.ga K "Row") .lst ds M Φ ∨ S_areS K (He.ga K "Row") .tup ds M Φ) (ok_are_rowsQL F_are_rows B hmR h_is_sequence) (ok_are_rowsQT F_are_rows B hmR h_is_sequence) (fun _ _ _ z => z)) (fun _ _ _ => areR_or))
  have h_InvalidRow : HasEx P w K mg base 1 (He.ga K "InvalidRow") "InvalidRow" "word" := hasEx (d := dx_0) X G rfl (cq.defx _ (List.mem_of_getElem? (i := 0) rfl)) (by rw [hP]; exact (ex_13 c.more)) (c.fact (.glo "InvalidRow") (List.mem_of_getElem? (i := 34) rfl)) (by rw [hP]; exact hPt) rfl ⟨rfl, rfl, rfl, rfl, rfl, rfl, rfl, by decide +kernel, by decide +kernel⟩ (by decide) (by decide) (by decide) (by decide) rfl rfl (fun _ => rfl) (fun _ => rfl) (fun _ => rfl) (fun _ _ _ _ _ _ _ us hl => match us, hl with | [_, _], _ => rfl)
  have h_GoA : HasMkX P w K mg base 3 (He.ga K "Go") "Go" [] (S_goA (⟨He.ga K "Go", He.ga K "Stop", He.ga K "While", He.ga K "If", He.ga K "See"⟩ : Cs) (He.ga K "InvalidRow")) := hasMkX X G (dvs := []) ⟨[], .nil, b_Go_init⟩ (fun _ => .nil) (c.fact (.mkr "Go") (List.mem_of_getElem? (i := 35) rfl)) (c.fact (.glo "Go") (List.mem_of_getElem? (i := 30) rfl)) (ok_Go_initA F_Go_init B hC h_InvalidRow hPG h_is_integer)
  have h_StopA : HasMkX P w K mg base 3 (He.ga K "Stop") "Stop" [] (S_stopA (⟨He.ga K "Go", He.ga K "Stop", He.ga K "While", He.ga K "If", He.ga K "See"⟩ : Cs) (He.ga K "InvalidRow")) := hasMkX X G (dvs := []) ⟨[], .nil, b_Stop_init⟩ (fun _ => .nil) (c.fact (.mkr "Stop") (List.mem_of_getElem? (i := 36) rfl)) (c.fact (.glo "Stop") (List.mem_of_getElem? (i := 37) rfl)) (ok_Stop_initA F_Stop_init B hC h_InvalidRow h_is_name)
  have h_IfA : HasMkX P w K mg base 3 (He.ga K "If") "If" [] (S_blkA K (He.ga K "Row") (He.ga K "If") "test" TsA (He.ga K "InvalidRow")) := hasMkX X G (dvs := []) b1_If_init (fun _ => .nil) (c.fact (.mkr "If") (List.mem_of_getElem? (i := 38) rfl)) (c.fact (.glo "If") (List.mem_of_getElem? (i := 39) rfl)) (ok_If_initA F_If_init (c := (⟨He.ga K "Go", He.ga K "Stop", He.ga K "While", He.ga K "If", He.ga K "See"⟩ : Cs)) B hC h_InvalidRow h_areR h_is_testA)
  have h_IfAD : HasMkX P w K mg base 3 (He.ga K "If") "If" [.tup []] (S_blkA K (He.ga K "Row") (He.ga K "If") "test" TsA (He.ga K "InvalidRow")) := hasMkX X G (dvs := [V.ref (He.dflAt ("If", some "__init__") 0 K)]) b0_If_init (fun P1 => .cons (nilB_ok (ex_14 c.more) P1) .nil) (c.fact (.mkr "If") (List.mem_of_getElem? (i := 38) rfl)) (c.fact (.glo "If") (List.mem_of_getElem? (i := 39) rfl)) (ok_If_initA F_If_init (c := (⟨He.ga K "Go", He.ga K "Stop", He.ga K "While", He.ga K "If", He.ga K "See"⟩ : Cs)) B hC h_InvalidRow h_areR h_is_testA)
  have h_SeeA : HasMkX P w K mg base 3 (He.ga K "See") "See" [] (S_blkA K (He.ga K "Row") (He.ga K "See") "mark" NameQ (He.ga K "InvalidRow")) := hasMkX X G (dvs := []) b1_See_init (fun _ => .nil) (c.fact (.mkr "See") (List.mem_of_getElem? (i := 40) rfl)) (c.fact (.glo "See") (List.mem_of_getElem? (i := 41) rfl)) (ok_See_initA F_See_init (c := (⟨He.ga K "Go", He.ga K "Stop", He.ga K "While", He.ga K "If", He.ga K "See"⟩ : Cs)) B hC h_InvalidRow h_areR h_is_name)
  have h_SeeAD : HasMkX P w K mg base 3 (He.ga K "See") "See" [.tup []] (S_blkA K (He.ga K "Row") (He.ga K "See") "mark" NameQ (He.ga K "InvalidRow")) := hasMkX X G (dvs := [V.ref (He.dflAt ("See", some "__init__") 0 K)]) b0_See_init (fun P1 => .cons (nilB_ok (ex_15 c.more) P1) .nil) (c.fact (.mkr "See") (List.mem_of_getElem? (i := 40) rfl)) (c.fact (.glo "See") (List.mem_of_getElem? (i := 41) rfl)) (ok_See_initA F_See_init (c := (⟨He.ga K "Go", He.ga K "Stop", He.ga K "While", He.ga K "If", He.ga K "See"⟩ : Cs)) B hC h_InvalidRow h_areR h_is_name)
  have h_WhileA : HasMkX P w K mg base 3 (He.ga K "While") "While" [] (S_whiA K (He.ga K "Row") (⟨He.ga K "Go", He.ga K "Stop", He.ga K "While", He.ga K "If", He.ga K "See"⟩ : Cs) (He.ga K "InvalidRow")) := hasMkX X G (dvs := []) ⟨[], .nil, b_While_init⟩ (fun _ => .nil) (c.fact (.mkr "While") (List.mem_of_getElem? (i := 42) rfl)) (c.fact (.glo "While") (List.mem_of_getElem? (i := 43) rfl)) (ok_While_initA F_While_init B hC h_InvalidRow h_areR h_is_testA hmG)
  have h_Lsome : HasFn P w K mg base 3 "_law_some" S_some := hasFn X G F_Lsome b_Lsome (c.fact (.glo "_law_some") (List.mem_of_getElem? (i := 44) rfl)) (ok_Lsome F_Lsome B h_Ldraw h_Lpick)
  have h_Ldue : HasFn P w K mg base 2 "_law_due" S_duL := hasFn X G F_Ldue b_Ldue (c.fact (.glo "_law_due") (List.mem_of_getElem? (i := 45) rfl)) (ok_Ldue F_Ldue B)
  have h_word : ∀ Z : Cx, Z.K = K → Z.mg = mg → HasLam Z "_law_word" BvW (BeW (He.ga K "InvalidRow")) := fun Z hK hm => hasLam (a := "_law_make") hK hm hmW F_Lword b_Lword sc_Lword rfl (Or.inl rfl) (by decide) (by decide) (fun cdv => by subst hK hm; exact ok_Lword B hE _ _ cdv)
  exact ok_law F_law B (code_of F_law) TB h_word hI hNo h_Ldeal h_Lsome h_Ldue h_GoA h_StopA h_IfA h_IfAD h_SeeA h_WhileA
end Sl57
open PySem PySem.W PySem.Calls PyProof.Rows
theorem PySem.Challenge.cw_slipsights_k12_rows_refused_holds : PySem.Challenge.rw_slipsights_k12_rows_refused.Holds := by
  w_on; o_law
  refine HandSHeadRun.head_any (r := OpenLaw.row PySem.Challenge.rw_slipsights_k12_rows_refused) (q := view (OpenLaw.row PySem.Challenge.rw_slipsights_k12_rows_refused).prog [34]) (H := Sl57.hk) (ob := Sl57.ob) (M := 20000) (loose := Sl57.loose) (d := HandSHeadRun.topDef (OpenLaw.row PySem.Challenge.rw_slipsights_k12_rows_refused).prog 34) (kwd := []) Sl57.ob_eq
    (by kernel_rfl) (fun s => by kernel_rfl) Sl57.run (by kernel_rfl) (by kernel_rfl) (by kernel_rfl) (by rfl) (by first | assumption | decide +kernel) (by decide +kernel) ⟨rfl, rfl, rfl, rfl, rfl, by decide +kernel⟩ ?hw ?hc
  case hw => w_witness2
  case hc =>
    refine Dt.walk_ofT (l := PySem.Challenge.rw_slipsights_k12_rows_refused) (n := 63) (k := 13) (x := "_law_script") rfl (by decide) (by kernel_rfl) ⟨rfl, by decide, by decide⟩ ?F
    intro w mg fa h Y G hmg0
    obtain ⟨K, KX, c⟩ := Y
    have hmg : mg ("law" : PySem.Str) = some (.ref fa) := by
      have e : (HandSHeadRun.topDef (OpenLaw.row PySem.Challenge.rw_slipsights_k12_rows_refused).prog 34).name = ("law" : PySem.Str) := by kernel_rfl
      rw [← e]
      exact hmg0
    obtain ⟨fd, hb, hF⟩ := Sl57.facts (P := (PySem.Challenge.rw_slipsights_k12_rows_refused).prog) (w := w) rfl KX G hmg c.told
    exact ⟨K, fd, _, _, Dt.spOf K (Sl57.S_law (He.cT K ("law", none)).2), KX, c.empty _ List.mem_cons_self, c.out _ List.mem_cons_self, PySem.W.codeHd_of_K KX (c.hd _ List.mem_cons_self), hb, fun H a ns hl hT hS => Sl57.law_startT hl hT hS, hF⟩
