import PyProof.Rows.All
import Wide.All
import OpenK.AllK
import Wide.FinOn
import HandS.ForMost
import HandS.Walk
import HandS.Zip
import HandS.Style
import HandS.Conv
import HandS.IsInst
import HandS.Wide
import KE.KDictKeyed
import KE.SortData
import KE.KDictWalk
import KE.DataEq
import KE.DataIsa
import HandS.TupAny
import HandS.TupLe
import HandS.SortOrd
import HandS.More
import KE.GoesMore
import KE.GoesEnum
import KE.KDictDisplayH
import KE.KDictSum
import HandS.Text
import KE.KDictZip
import HandS.Zip0
import HandS.RaiseMore
import PyProof.ReprRoads
import KE.KExcSuper
import KE.KSuper
import HandS.ExcInit
import HandS.ExcField
import HandS.TryMany
import HandS.Lambda
import KE.Datum
import HandS.EndOwn
import PySem.Challenge.RW_sparehop_k26_whole_main_reached_exactly
set_option Elab.async false
section DLa
set_option Elab.async false
set_option linter.all false
set_option maxRecDepth 100000
set_option maxHeartbeats 1000000
/-! DLa: data at values (no heap), cells, what an expression delivers -/
namespace DL
open PySem PySem.Spec PyProof.Rows L2

/-! ### data at a value: tuples, locked lists, locked dicts -/
mutual
inductive NkV (H : Hp) : V → NestedKey → Prop
  | num (i : Int) : NkV H (.int i) (.num i)
  | text (x : Str) : NkV H (.str x) (.text x)
  | tup {a : Addr} {xs : List V} {ks : List NestedKey} : H a = some (.tup xs) → NkAll H xs ks → NkV H (.ref a) (.tup ks)
inductive NkAll (H : Hp) : List V → List NestedKey → Prop
  | nil : NkAll H [] []
  | cons {v : V} {vs : List V} {k : NestedKey} {ks : List NestedKey} : NkV H v k → NkAll H vs ks → NkAll H (v :: vs) (k :: ks)
end
/-- the object at a, as it is -/
def objIs (a : Addr) (o : Obj) : Heap → Prop := fun h => h.get? a = some o
/-- o is a dict with these keys (tuples), values -/
def DictRep (P : Program) (w : World) (H : Hp) (a : Addr) (o : Obj) (kvs : List (NestedKey × V)) : Prop :=
  o.ExactDict ∧ kvs.length ≤ sizeLine ∧ (a == sysModules) = false ∧ ∃ (es : Array DictEntry) (ep : Nat) (xs : List (NestedKey × Addr × Value)),
    o.data = .dict es ep ∧ es.toList = xs.map (entryOfKey (nestedKind P w)) ∧ (xs.map (·.1)).Nodup ∧
      Paired (fun (p : NestedKey × V) (q : NestedKey × Addr × Value) => p.1 = q.1 ∧ (NkV H (.ref q.2.1) p.1 ∧ p.1.depth ≤ 8) ∧ RelV p.2 q.2.2) kvs xs
mutual
inductive Dv (H : Hp) : V → PyData → Prop
  | non : Dv H .non .none
  | bl (b : Bool) : Dv H (.bl b) (.bool b)
  | int (i : Int) : Dv H (.int i) (.int i)
  | str (x : Str) : Dv H (.str x) (.str x)
  | lst {a : Addr} {o : Obj} {xs : List V} {ds : List PyData} : H a = some (.frz o (.lst xs)) → DvAll H xs ds → Dv H (.ref a) (.list ds)
  | tup {a : Addr} {xs : List V} {ds : List PyData} : H a = some (.tup xs) → DvAll H xs ds → Dv H (.ref a) (.tuple ds)
inductive DvAll (H : Hp) : List V → List PyData → Prop
  | nil : DvAll H [] []
  | cons {v : V} {vs : List V} {d : PyData} {ds : List PyData} : Dv H v d → DvAll H vs ds → DvAll H (v :: vs) (d :: ds)
end
section
variable {P : Program} {w : World} {H H' : Hp}
theorem DvAll.length : ∀ {vs : List V} {ds : List PyData}, DvAll H vs ds → vs.length = ds.length
  | _, _, .nil => rfl
  | _, _, .cons _ t => by rw [List.length_cons, List.length_cons, DvAll.length t]
theorem DvAll.get : ∀ {vs : List V} {ds : List PyData} {i : Nat} {d : PyData}, DvAll H vs ds → ds[i]? = some d → ∃ v, vs[i]? = some v ∧ Dv H v d
  | _, _, _, _, .nil, e => by simp at e
  | _, _, 0, _, .cons h _, e => ⟨_, rfl, by cases e; exact h⟩
  | _, _, i + 1, _, .cons _ t, e => DvAll.get (i := i) t e
theorem DvAll.getV : ∀ {vs : List V} {ds : List PyData} {i : Nat} {v : V}, DvAll H vs ds → vs[i]? = some v → ∃ d, ds[i]? = some d ∧ Dv H v d
  | _, _, _, _, .nil, e => by simp at e
  | _, _, 0, _, .cons h _, e => ⟨_, rfl, by cases e; exact h⟩
  | _, _, i + 1, _, .cons _ t, e => DvAll.getV (i := i) t e
theorem DvAll.app : ∀ {vs us : List V} {ds es : List PyData}, DvAll H vs ds → DvAll H us es → DvAll H (vs ++ us) (ds ++ es)
  | _, _, _, _, .nil, s => s
  | _, _, _, _, .cons h t, s => .cons h (DvAll.app t s)
theorem DvAll.tk (n : Nat) : ∀ {vs : List V} {ds : List PyData}, DvAll H vs ds → DvAll H (vs.take n) (ds.take n) := by
  induction n with
  | zero => intro _ _ _; exact .nil
  | succ n ih =>
    intro vs ds h
    cases h with
    | nil => exact .nil
    | cons a t => exact .cons a (ih t)
theorem DvAll.dr (n : Nat) : ∀ {vs : List V} {ds : List PyData}, DvAll H vs ds → DvAll H (vs.drop n) (ds.drop n) := by
  induction n with
  | zero => intro _ _ h; exact h
  | succ n ih =>
    intro vs ds h
    cases h with
    | nil => exact .nil
    | cons a t => exact ih t
theorem DvAll.put (i : Nat) {v : V} {d : PyData} (hv : Dv H v d) : ∀ {vs : List V} {ds : List PyData}, DvAll H vs ds → DvAll H (vs.set i v) (ds.set i d) := by
  induction i with
  | zero =>
    intro vs ds h
    cases h with
    | nil => exact .nil
    | cons a t => exact .cons hv t
  | succ n ih =>
    intro vs ds h
    cases h with
    | nil => exact .nil
    | cons a t => exact .cons a (ih t)
theorem DvAll.dropL {vs : List V} {ds : List PyData} (h : DvAll H vs ds) : DvAll H vs.dropLast ds.dropLast := by
  rw [List.dropLast_eq_take, List.dropLast_eq_take, h.length]
  exact h.tk _
theorem DvAll.erase (i : Nat) : ∀ {vs : List V} {ds : List PyData}, DvAll H vs ds → DvAll H (vs.eraseIdx i) (ds.eraseIdx i) := by
  induction i with
  | zero =>
    intro vs ds h
    cases h with
    | nil => exact .nil
    | cons a t => exact t
  | succ n ih =>
    intro vs ds h
    cases h with
    | nil => exact .nil
    | cons a t => exact .cons a (ih t)

/-! ### it stays while tuples and locked things stay -/
structure Kp (H H' : Hp) : Prop where
  tup : ∀ b xs, H b = some (.tup xs) → H' b = some (.tup xs)
  frz : ∀ b o u, H b = some (.frz o u) → H' b = some (.frz o u)
mutual
theorem NkV.keep (k : Kp H H') : ∀ {v : V} {x : NestedKey}, NkV H v x → NkV H' v x
  | _, _, .num i => .num i
  | _, _, .text x => .text x
  | _, _, .tup e h => .tup (k.tup _ _ e) (NkAll.keep k h)
theorem NkAll.keep (k : Kp H H') : ∀ {v : List V} {x : List NestedKey}, NkAll H v x → NkAll H' v x
  | _, _, .nil => .nil
  | _, _, .cons a t => .cons (NkV.keep k a) (NkAll.keep k t)
end
theorem DictRep.keep (k : Kp H H') {a : Addr} {o : Obj} {vs : List (NestedKey × V)} (h : DictRep P w H a o vs) : DictRep P w H' a o vs := by
  obtain ⟨h1, h2, h3, es, ep, xs, h4, h5, h6, h7⟩ := h
  exact ⟨h1, h2, h3, es, ep, xs, h4, h5, h6, Paired.mapP h7 fun p q r => ⟨r.1, ⟨r.2.1.1.keep k, r.2.1.2⟩, r.2.2⟩⟩
mutual
theorem Dv.keep (k : Kp H H') : ∀ {v : V} {d : PyData}, Dv H v d → Dv H' v d
  | _, _, .non => .non
  | _, _, .bl b => .bl b
  | _, _, .int i => .int i
  | _, _, .str x => .str x
  | _, _, .lst e h => .lst (k.frz _ _ _ e) (DvAll.keep k h)
  | _, _, .tup e h => .tup (k.tup _ _ e) (DvAll.keep k h)
theorem DvAll.keep (k : Kp H H') : ∀ {vs : List V} {ds : List PyData}, DvAll H vs ds → DvAll H' vs ds
  | _, _, .nil => .nil
  | _, _, .cons a t => .cons (Dv.keep k a) (DvAll.keep k t)
end
end

/-! ### data that may be a dict -/
inductive Dt where
  | d (x : PyData)
  /-- a locked dict -/
  | k (kvs : List (NestedKey × PyData))
  /-- a locked dict of locked dicts, all values True -/
  | kk (kvs : List (NestedKey × List NestedKey))
def FzK (P : Program) (w : World) (H : Hp) (v : V) (kvs : List (NestedKey × PyData)) : Prop := ∃ (a : Addr) (ob o : Obj) (vs : List (NestedKey × V)),
  v = .ref a ∧ H a = some (.frz ob (.ext (objIs a o))) ∧ DictRep P w H a o vs ∧ kvs.map (·.1) = vs.map (·.1) ∧ DvAll H (vs.map (·.2)) (kvs.map (·.2))
/-- the inner dict of keys, all True -/
abbrev trues (ks : List NestedKey) : List (NestedKey × PyData) := ks.map fun k => (k, PyData.bool true)
inductive FzAll (P : Program) (w : World) (H : Hp) : List V → List (List NestedKey) → Prop
  | nil : FzAll P w H [] []
  | cons {v : V} {vs : List V} {ks : List NestedKey} {r : List (List NestedKey)} : FzK P w H v (trues ks) → FzAll P w H vs r → FzAll P w H (v :: vs) (ks :: r)
def Dtv (P : Program) (w : World) (H : Hp) (v : V) : Dt → Prop
  | .d x => Dv H v x
  | .k kvs => FzK P w H v kvs
  | .kk kvs => ∃ (a : Addr) (ob o : Obj) (vs : List (NestedKey × V)),
      v = .ref a ∧ H a = some (.frz ob (.ext (objIs a o))) ∧ DictRep P w H a o vs ∧ kvs.map (·.1) = vs.map (·.1) ∧ FzAll P w H (vs.map (·.2)) (kvs.map (·.2))
section
variable {P : Program} {w : World} {H H' : Hp}
theorem FzK.keep (k : Kp H H') {v : V} {kvs : List (NestedKey × PyData)} (h : FzK P w H v kvs) : FzK P w H' v kvs := by
  obtain ⟨a, ob, o, vs, h1, h2, h3, h4, h5⟩ := h
  exact ⟨a, ob, o, vs, h1, k.frz _ _ _ h2, h3.keep k, h4, h5.keep k⟩
theorem FzAll.keep (k : Kp H H') : ∀ {vs : List V} {r : List (List NestedKey)}, FzAll P w H vs r → FzAll P w H' vs r
  | _, _, .nil => .nil
  | _, _, .cons a t => .cons (a.keep k) (FzAll.keep k t)
theorem Dtv.keep (k : Kp H H') {v : V} {d : Dt} (h : Dtv P w H v d) : Dtv P w H' v d := by
  cases d with
  | d x => exact Dv.keep k h
  | k kvs => exact FzK.keep k h
  | kk kvs =>
    obtain ⟨a, ob, o, vs, h1, h2, h3, h4, h5⟩ := h
    exact ⟨a, ob, o, vs, h1, k.frz _ _ _ h2, h3.keep k, h4, h5.keep k⟩
end

/-! ### cells: what a slot holds -/
inductive Cell where
  /-- data, never changed -/
  | dat (d : Dt)
  /-- an own list -/
  | lst (l : List PyData)
  /-- an own dict whose keys are tuples -/
  | dct (kvs : List (NestedKey × PyData))
def Cell.own : Cell → Bool
  | .dat _ => false
  | _ => true
abbrev Sv := List (Option Cell)
/-- an own thing stands at a -/
def Ow (P : Program) (w : World) (H : Hp) (a : Addr) : Cell → Prop
  | .dat _ => False
  | .lst l => ∃ xs, H a = some (.lst xs) ∧ DvAll H xs l
  | .dct kvs => ∃ o vs, H a = some (.ext (objIs a o)) ∧ DictRep P w H a o vs ∧ kvs.map (·.1) = vs.map (·.1) ∧ DvAll H (vs.map (·.2)) (kvs.map (·.2))
/-- the addresses of the own things -/
def ownA (σ : L2.St) (ρ : Sv) (b : Addr) : Prop := ∃ (i : Nat) (c : Cell), ρ[i]? = some (some c) ∧ c.own = true ∧ σ[i]? = some (some (.ref b))
structure Rep (P : Program) (w : World) (H : Hp) (σ : L2.St) (ρ : Sv) : Prop where
  len : σ.length = ρ.length
  dat : ∀ (i : Nat) (d : Dt), ρ[i]? = some (some (.dat d)) → ∃ v, σ[i]? = some (some v) ∧ Dtv P w H v d
  own : ∀ (i : Nat) (c : Cell), ρ[i]? = some (some c) → c.own = true → ∃ a, σ[i]? = some (some (.ref a)) ∧ Ow P w H a c
  ne : ∀ (i j : Nat) (c c' : Cell) (a : Addr), ρ[i]? = some (some c) → c.own = true → ρ[j]? = some (some c') → c'.own = true → σ[i]? = some (some (.ref a)) → σ[j]? = some (some (.ref a)) → i = j
/-- from one state to a later one: all but the own things stays; what is own later was own or is new -/
structure Le (M : Addr → Prop) (H : Hp) (M' : Addr → Prop) (H' : Hp) : Prop where
  keep : ∀ b o, H b = some o → ¬ M b → H' b = some o
  trk : ∀ b, H' b = none → H b = none
  new : ∀ b, M' b → M b ∨ H b = none
theorem Le.refl (M : Addr → Prop) (H : Hp) : Le M H M H := ⟨fun _ _ e _ => e, fun _ e => e, fun _ h => .inl h⟩
theorem Le.trans {M M1 M2 : Addr → Prop} {H H1 H2 : Hp} (a : Le M H M1 H1) (b : Le M1 H1 M2 H2) : Le M H M2 H2 where
  keep := fun c o e n => b.keep c o (a.keep c o e n) fun m => by
    rcases a.new c m with h | h
    · exact n h
    · rw [h] at e; cases e
  trk := fun c e => a.trk c (b.trk c e)
  new := fun c m => by
    rcases b.new c m with h | h
    · exact a.new c h
    · exact .inr (a.trk c h)
/-- fewer own things at the end -/
theorem Le.less {M M1 M2 : Addr → Prop} {H H1 : Hp} (a : Le M H M1 H1) (h : ∀ b, M2 b → M1 b) : Le M H M2 H1 := ⟨a.keep, a.trk, fun b m => a.new b (h b m)⟩
/-- more own things at the start -/
theorem Le.more {M M0 M1 : Addr → Prop} {H H1 : Hp} (a : Le M H M1 H1) (h : ∀ b, M b → M0 b) : Le M0 H M1 H1 :=
  ⟨fun b o e n => a.keep b o e fun m => n (h b m), a.trk, fun b m => (a.new b m).imp (h b) id⟩

section
variable {P : Program} {w : World} {H H' Hs : Hp} {σ : L2.St} {ρ ρ' : Sv}
theorem Ow.unf {a : Addr} {c : Cell} (h : Ow P w H a c) : (∃ xs, H a = some (.lst xs)) ∨ ∃ φ, H a = some (.ext φ) := by
  cases c with
  | dat d => exact h.elim
  | lst l => exact .inl ⟨_, h.choose_spec.1⟩
  | dct kvs => obtain ⟨o, vs, e, _⟩ := h; exact .inr ⟨_, e⟩
theorem Ow.some {a : Addr} {c : Cell} (h : Ow P w H a c) : H a ≠ none := by
  rcases h.unf with ⟨_, e⟩ | ⟨_, e⟩ <;> rw [e] <;> simp
theorem Rep.unf (R : Rep P w H σ ρ) {b : Addr} (m : ownA σ ρ b) : (∃ xs, H b = some (.lst xs)) ∨ ∃ φ, H b = some (.ext φ) := by
  obtain ⟨i, c, h1, h2, h3⟩ := m
  obtain ⟨a, h4, h5⟩ := R.own i c h1 h2
  rw [h3] at h4
  cases h4
  exact h5.unf
/-- tuples and locked things stay -/
theorem Rep.kp (R : Rep P w H σ ρ) {M' : Addr → Prop} (L : Le (ownA σ ρ) H M' H') : Kp H H' where
  tup := fun b xs e => L.keep b _ e fun m => by
    rcases R.unf m with ⟨_, q⟩ | ⟨_, q⟩ <;> rw [e] at q <;> cases q
  frz := fun b o u e => L.keep b _ e fun m => by
    rcases R.unf m with ⟨_, q⟩ | ⟨_, q⟩ <;> rw [e] at q <;> cases q
/-- an own thing stays while its object and the data stay -/
theorem Ow.keep (k : Kp H H') {a : Addr} {c : Cell} (e : H' a = H a) (h : Ow P w H a c) : Ow P w H' a c := by
  cases c with
  | dat d => exact h
  | lst l =>
    obtain ⟨xs, e1, h1⟩ := h
    exact ⟨xs, e.trans e1, h1.keep k⟩
  | dct kvs =>
    obtain ⟨o, vs, e1, h1, h2, h3⟩ := h
    exact ⟨o, vs, e.trans e1, h1.keep k, h2, h3.keep k⟩

/-- what an expression comes to: data, an own thing by its slot, a new own thing -/
inductive Dx where
  | dat (d : Dt)
  | own (i : Nat)
  | new (c : Cell)
/-- v is x; Hs: the heap at the expression's start -/
def Xv (P : Program) (w : World) (Hs H : Hp) (σ : L2.St) (ρ : Sv) (v : V) : Dx → Prop
  | .dat d => Dtv P w H v d
  | .own i => σ[i]? = some (some v)
  | .new c => ∃ a, v = .ref a ∧ c.own = true ∧ Ow P w H a c ∧ Hs a = none ∧ ¬ ownA σ ρ a
theorem Xv.keep (R : Rep P w H σ ρ) (L : Le (ownA σ ρ) H (ownA σ ρ') H') {v : V} {x : Dx} (h : Xv P w Hs H σ ρ v x) : Xv P w Hs H' σ ρ' v x := by
  cases x with
  | dat d => exact Dtv.keep (R.kp L) h
  | own i => exact h
  | new c =>
    obtain ⟨a, e, ho, hw, hs, hn⟩ := h
    refine ⟨a, e, ho, hw.keep (R.kp L) ?_, hs, fun m => ?_⟩
    · cases q : H a with
      | none => exact absurd q hw.some
      | some u => exact L.keep a u q hn
    · rcases L.new a m with z | z
      · exact hn z
      · exact hw.some z
/-- with an earlier start -/
theorem Xv.early {H0 : Hp} (t : ∀ b, Hs b = none → H0 b = none) {v : V} {x : Dx} (h : Xv P w Hs H σ ρ v x) : Xv P w H0 H σ ρ v x := by
  cases x with
  | dat d => exact h
  | own i => exact h
  | new c =>
    obtain ⟨a, e, ho, hw, hs, hn⟩ := h
    exact ⟨a, e, ho, hw, t a hs, hn⟩
end

/-! ### readings -/
/-- what is delivered: R holds of the outcome -/
def Dl (P : Program) (w : World) (σ : L2.St) (ρ : Sv) (Hs H : Hp) (R : Dx → Sv → Prop) : VK := fun z H2 =>
  ∃ x ρ', R x ρ' ∧ Le (ownA σ ρ) H (ownA σ ρ') H2 ∧ Rep P w H2 σ ρ' ∧ Xv P w Hs H2 σ ρ' z x
abbrev Et := Sv → (Dx → Sv → Prop) → Prop
abbrev Tt := Sv → (Bool → Sv → Prop) → Prop
def rdE (P : Program) (w : World) (E : Et) : TE := fun σ H Q => ∃ ρ R, Rep P w H σ ρ ∧ E ρ R ∧ ∀ z H2, Dl P w σ ρ H H R z H2 → Q z H2
def rdT (P : Program) (w : World) (T : Tt) : TT := fun σ H Q => ∃ ρ R, Rep P w H σ ρ ∧ T ρ R ∧ ∀ b ρ' H2, R b ρ' → Le (ownA σ ρ) H (ownA σ ρ') H2 → Rep P w H2 σ ρ' → Q b H2
abbrev DE (X : Cx) (e : Expr) (E : Et) : Prop := PE X e (rdE X.prog X.w E)
abbrev DT (X : Cx) (e : Expr) (T : Tt) : Prop := PT X e (rdT X.prog X.w T)
theorem PE.imp {X : Cx} {e : Expr} {t t' : TE} (h : PE X e t) (k : ∀ σ H Q, t' σ H Q → t σ H Q) : PE X e t' := ⟨fun pins s σ H Q I q => h.run pins s σ H Q I (k σ H Q q)⟩
theorem PT.imp {X : Cx} {e : Expr} {t t' : TT} (h : PT X e t) (k : ∀ σ H Q, t' σ H Q → t σ H Q) : PT X e t' := ⟨fun pins s σ H Q I q => h.run pins s σ H Q I (k σ H Q q)⟩
/-- knowing that the state is held -/
theorem PE.impI {X : Cx} {e : Expr} {t t' : TE} (h : PE X e t) (k : ∀ pins s σ H Q, Inv X pins σ H s → t' σ H Q → t σ H Q) : PE X e t' := ⟨fun pins s σ H Q I q => h.run pins s σ H Q I (k pins s σ H Q I q)⟩
end DL
end DLa
section DLb
set_option Elab.async false
set_option linter.all false
set_option maxRecDepth 100000
set_option maxHeartbeats 1000000
/-! DLb: what is known of outcomes; how states change -/
namespace DL
open PySem PySem.Spec PyProof.Rows L2

/-! ### the datum of an outcome -/
def lsAt (ρ : Sv) (i : Nat) : Option PyData := match ρ[i]? with
  | some (some (.lst l)) => some (.list l)
  | _ => none
def ddOf (ρ : Sv) : Dx → Option PyData
  | .dat (.d x) => some x
  | .own i => lsAt ρ i
  | .new (.lst l) => some (.list l)
  | _ => none
def dcAt (ρ : Sv) (i : Nat) : Option (List (NestedKey × PyData)) := match ρ[i]? with
  | some (some (.dct l)) => some l
  | _ => none
def dkOf (ρ : Sv) : Dx → Option (List (NestedKey × PyData))
  | .dat (.k x) => some x
  | .own i => dcAt ρ i
  | .new (.dct l) => some l
  | _ => none
theorem lsAt_some {ρ : Sv} {i : Nat} {d : PyData} (h : lsAt ρ i = some d) : ∃ l, d = .list l ∧ ρ[i]? = some (some (.lst l)) := by
  unfold lsAt at h
  split at h
  · rename_i l e
    exact ⟨l, (Option.some.inj h).symm, e⟩
  · cases h
theorem dcAt_some {ρ : Sv} {i : Nat} {d : List (NestedKey × PyData)} (h : dcAt ρ i = some d) : ρ[i]? = some (some (.dct d)) := by
  unfold dcAt at h
  split at h
  · rename_i l e
    cases h
    exact e
  · cases h
mutual
theorem Dv.dp {K : PySem.W.Frag} {H : Hp} : ∀ {v : V} {d : PyData}, Dv H v d → Dp K H v d
  | _, _, .non => .non
  | _, _, .bl b => .bl b
  | _, _, .int i => .int i
  | _, _, .str x => .str x
  | _, _, .lst e h => .lst (.inl (.inr ⟨_, e⟩)) (DvAll.dp h)
  | _, _, .tup e h => .tup (.inl (.inl e)) (DvAll.dp h)
theorem DvAll.dp {K : PySem.W.Frag} {H : Hp} : ∀ {vs : List V} {ds : List PyData}, DvAll H vs ds → DpAll K H vs ds
  | _, _, .nil => .nil
  | _, _, .cons a t => .cons (Dv.dp a) (DvAll.dp t)
end
mutual
theorem Dp.plain {K : PySem.W.Frag} {H : Hp} : ∀ {v : V} {d : PyData}, Dp K H v d → d.plain = true
  | _, _, .non => by simp [PyData.plain]
  | _, _, .bl b => by simp [PyData.plain]
  | _, _, .int i => by simp [PyData.plain]
  | _, _, .str x => by simp [PyData.plain]
  | _, _, .lst e h => by simp only [PyData.plain]; exact DpAll.plain h
  | _, _, .tup e h => by simp only [PyData.plain]; exact DpAll.plain h
theorem DpAll.plain {K : PySem.W.Frag} {H : Hp} : ∀ {vs : List V} {ds : List PyData}, DpAll K H vs ds → PyData.plainAll ds = true
  | _, _, .nil => by simp [PyData.plainAll]
  | _, _, .cons a t => by simp only [PyData.plainAll, Bool.and_eq_true]; exact ⟨Dp.plain a, DpAll.plain t⟩
end
section
variable {P : Program} {w : World} {K : PySem.W.Frag} {H H' Hs : Hp} {σ : L2.St} {ρ ρ' : Sv} {v : V} {x : Dx}
theorem dd_dp (R : Rep P w H σ ρ) (h : Xv P w Hs H σ ρ v x) {d : PyData} (e : ddOf ρ x = some d) : Dp K H v d := by
  cases x with
  | dat t =>
    cases t with
    | d y => cases e; exact Dv.dp h
    | k _ => cases e
    | kk _ => cases e
  | own i =>
    obtain ⟨l, rfl, e'⟩ := lsAt_some e
    obtain ⟨a, h1, xs, h2, h3⟩ := R.own i _ e' rfl
    have h : σ[i]? = some (some v) := h
    rw [h1] at h
    cases h
    exact .lst (.inl (.inl h2)) h3.dp
  | new c =>
    cases c with
    | dat _ => cases e
    | dct _ => cases e
    | lst l =>
      cases e
      obtain ⟨a, rfl, _, ⟨xs, h2, h3⟩, _⟩ := h
      exact .lst (.inl (.inl h2)) h3.dp
/-- a list, with items that are data -/
theorem dd_lst (R : Rep P w H σ ρ) (h : Xv P w Hs H σ ρ v x) {l : List PyData} (e : ddOf ρ x = some (.list l)) : ∃ a xs, v = .ref a ∧ Rd H a (.lst xs) ∧ DvAll H xs l := by
  cases x with
  | dat t =>
    cases t with
    | d y =>
      cases e
      have h : Dv H v (.list l) := h
      cases h with
      | lst e h => exact ⟨_, _, rfl, .inr ⟨_, e⟩, h⟩
    | k _ => cases e
    | kk _ => cases e
  | own i =>
    obtain ⟨l', e1, e'⟩ := lsAt_some e
    cases e1
    obtain ⟨a, h1, xs, h2, h3⟩ := R.own i _ e' rfl
    have h : σ[i]? = some (some v) := h
    rw [h1] at h
    cases h
    exact ⟨_, _, rfl, .inl h2, h3⟩
  | new c =>
    cases c with
    | dat _ => cases e
    | dct _ => cases e
    | lst l =>
      cases e
      obtain ⟨a, rfl, _, ⟨xs, h2, h3⟩, _⟩ := h
      exact ⟨_, _, rfl, .inl h2, h3⟩
theorem dd_tup (R : Rep P w H σ ρ) (h : Xv P w Hs H σ ρ v x) {l : List PyData} (e : ddOf ρ x = some (.tuple l)) : ∃ a xs, v = .ref a ∧ H a = some (.tup xs) ∧ DvAll H xs l := by
  cases x with
  | dat t =>
    cases t with
    | d y =>
      cases e
      have h : Dv H v (.tuple l) := h
      cases h with
      | tup e h => exact ⟨_, _, rfl, e, h⟩
    | k _ => cases e
    | kk _ => cases e
  | own i =>
    obtain ⟨l', e1, e'⟩ := lsAt_some e
    cases e1
  | new c =>
    cases c with
    | dat _ => cases e
    | dct _ => cases e
    | lst l => cases e
theorem dd_int (R : Rep P w H σ ρ) (h : Xv P w Hs H σ ρ v x) {i : Int} (e : ddOf ρ x = some (.int i)) : v = .int i := by
  cases (dd_dp (K := ([] : PySem.W.Frag)) R h e : Dp _ H v (.int i))
  rfl
theorem dd_str (R : Rep P w H σ ρ) (h : Xv P w Hs H σ ρ v x) {z : Str} (e : ddOf ρ x = some (.str z)) : v = .str z := by
  cases (dd_dp (K := ([] : PySem.W.Frag)) R h e : Dp _ H v (.str z))
  rfl
theorem dd_bl (R : Rep P w H σ ρ) (h : Xv P w Hs H σ ρ v x) {z : Bool} (e : ddOf ρ x = some (.bool z)) : v = .bl z := by
  cases (dd_dp (K := ([] : PySem.W.Frag)) R h e : Dp _ H v (.bool z))
  rfl
end

/-! ### how states change -/
section
variable {P : Program} {w : World} {H H' Hs : Hp} {σ : L2.St} {ρ ρ' : Sv}
theorem Rep.of (R : Rep P w H σ ρ) (k : Kp H H') (e : ∀ b, ownA σ ρ b → H' b = H b) : Rep P w H' σ ρ where
  len := R.len
  dat := fun i d h => let ⟨v, h1, h2⟩ := R.dat i d h; ⟨v, h1, h2.keep k⟩
  own := fun i c h ho => let ⟨a, h1, h2⟩ := R.own i c h ho; ⟨a, h1, h2.keep k (e a ⟨i, c, h, ho, h1⟩)⟩
  ne := R.ne
theorem Rep.tracked (R : Rep P w H σ ρ) {b : Addr} (m : ownA σ ρ b) : H b ≠ none := by
  rcases R.unf m with ⟨_, e⟩ | ⟨_, e⟩ <;> rw [e] <;> simp
/-- a new thing is laid -/
theorem Le.laid {M : Addr → Prop} {p : Addr} {o : HO} (hp : H p = none) : Le M H M (upd H p o) where
  keep := fun b u e _ => by rw [upd_ne (ne_of_none e hp)]; exact e
  trk := fun b e => by
    by_cases hb : b = p
    · rw [hb]; exact hp
    · rw [upd_ne hb] at e; exact e
  new := fun _ m => .inl m
theorem kp_laid {p : Addr} {o : HO} (hp : H p = none) : Kp H (upd H p o) :=
  ⟨fun b xs e => by rw [upd_ne (ne_of_none e hp)]; exact e, fun b u x e => by rw [upd_ne (ne_of_none e hp)]; exact e⟩
theorem Rep.laid (R : Rep P w H σ ρ) {p : Addr} {o : HO} (hp : H p = none) : Rep P w (upd H p o) σ ρ :=
  R.of (kp_laid hp) fun b m => upd_ne fun z => R.tracked m (by rw [z]; exact hp)
theorem dl_same {R : Dx → Sv → Prop} {v : V} {x : Dx} (rep : Rep P w H σ ρ) (hR : R x ρ) (hx : Xv P w Hs H σ ρ v x) : Dl P w σ ρ Hs H R v H := ⟨x, ρ, hR, Le.refl _ _, rep, hx⟩
theorem dl_dat {R : Dx → Sv → Prop} {v : V} {d : PyData} (rep : Rep P w H σ ρ) (hR : R (.dat (.d d)) ρ) (hx : Dv H v d) : Dl P w σ ρ Hs H R v H := ⟨_, ρ, hR, Le.refl _ _, rep, hx⟩
theorem dl_tup {R : Dx → Sv → Prop} {p : Addr} {xs : List V} {ds : List PyData} (rep : Rep P w H σ ρ) (hR : R (.dat (.d (.tuple ds))) ρ) (hp : H p = none) (hd : DvAll H xs ds) : Dl P w σ ρ Hs H R (.ref p) (upd H p (.tup xs)) :=
  ⟨_, ρ, hR, Le.laid hp, rep.laid hp, Dv.tup upd_same (hd.keep (kp_laid hp))⟩
theorem dl_new {R : Dx → Sv → Prop} {p : Addr} {xs : List V} {ds : List PyData} (rep : Rep P w H σ ρ) (hR : R (.new (.lst ds)) ρ) (hp : H p = none) (hs : Hs p = none) (hd : DvAll H xs ds) : Dl P w σ ρ Hs H R (.ref p) (upd H p (.lst xs)) :=
  ⟨_, ρ, hR, Le.laid hp, rep.laid hp, p, rfl, rfl, ⟨xs, upd_same, hd.keep (kp_laid hp)⟩, hs, fun m => rep.tracked m hp⟩
/-- .. laid where it was laid already -/
theorem dl_at {R : Dx → Sv → Prop} {p : Addr} {xs : List V} {ds : List PyData} {H2 : Hp} (rep : Rep P w H σ ρ) (hR : R (.new (.lst ds)) ρ) (hp : H p = none) (hs : Hs p = none) (hd : DvAll H xs ds) (e : H2 = upd H p (.lst xs)) : Dl P w σ ρ Hs H R (.ref p) H2 := by
  subst e; exact dl_new rep hR hp hs hd

/-! ### an own thing is changed -/
theorem set_get {α : Type} {l : List α} {i j : Nat} {x y : α} (h : (l.set i x)[j]? = some y) : (j = i ∧ y = x) ∨ (j ≠ i ∧ l[j]? = some y) := by
  by_cases e : i = j
  · subst e
    by_cases hl : i < l.length
    · rw [List.getElem?_set_self hl] at h
      exact .inl ⟨rfl, (Option.some.inj h).symm⟩
    · rw [List.getElem?_eq_none (by simpa using hl)] at h
      cases h
  · rw [List.getElem?_set_ne e] at h
    exact .inr ⟨fun z => e z.symm, h⟩
theorem kp_put {p : Addr} {o : HO} (hu : (∃ xs, H p = some (.lst xs)) ∨ ∃ φ, H p = some (.ext φ)) : Kp H (upd H p o) where
  tup := fun b xs e => by
    rw [upd_ne]
    · exact e
    · rintro rfl
      rcases hu with ⟨_, q⟩ | ⟨_, q⟩ <;> rw [e] at q <;> cases q
  frz := fun b u x e => by
    rw [upd_ne]
    · exact e
    · rintro rfl
      rcases hu with ⟨_, q⟩ | ⟨_, q⟩ <;> rw [e] at q <;> cases q
theorem ownA_put {i : Nat} {c c' : Cell} (hi : ρ[i]? = some (some c)) (ho : c.own = true) (ho' : c'.own = true) (b : Addr) : ownA σ (ρ.set i (some c')) b ↔ ownA σ ρ b := by
  have hl : i < ρ.length := (List.getElem?_eq_some_iff.mp hi).1
  constructor
  · rintro ⟨j, d, h1, h2, h3⟩
    rcases set_get h1 with ⟨rfl, e⟩ | ⟨hj, e⟩
    · exact ⟨j, c, hi, ho, h3⟩
    · exact ⟨j, d, e, h2, h3⟩
  · rintro ⟨j, d, h1, h2, h3⟩
    by_cases hj : i = j
    · subst hj
      exact ⟨i, c', List.getElem?_set_self hl, ho', h3⟩
    · exact ⟨j, d, by rw [List.getElem?_set_ne hj]; exact h1, h2, h3⟩
theorem Le.put {i : Nat} {c c' : Cell} {a : Addr} {o : HO} (hi : ρ[i]? = some (some c)) (ho : c.own = true) (ho' : c'.own = true) (hs : σ[i]? = some (some (.ref a))) (ht : H a ≠ none) :
    Le (ownA σ ρ) H (ownA σ (ρ.set i (some c'))) (upd H a o) where
  keep := fun b u e n => by
    rw [upd_ne]
    · exact e
    · rintro rfl
      exact n ⟨i, c, hi, ho, hs⟩
  trk := fun b e => by
    by_cases hb : b = a
    · rw [hb, upd_same] at e; cases e
    · rw [upd_ne hb] at e; exact e
  new := fun b m => .inl ((ownA_put hi ho ho' b).mp m)
theorem Rep.put (R : Rep P w H σ ρ) {i : Nat} {c c' : Cell} {a : Addr} {o : HO} (hi : ρ[i]? = some (some c)) (ho : c.own = true) (ho' : c'.own = true) (hs : σ[i]? = some (some (.ref a)))
    (hu : (∃ xs, H a = some (.lst xs)) ∨ ∃ φ, H a = some (.ext φ)) (hn : Ow P w (upd H a o) a c') : Rep P w (upd H a o) σ (ρ.set i (some c')) where
  len := by rw [List.length_set]; exact R.len
  dat := fun j d h => by
    rcases set_get h with ⟨rfl, e⟩ | ⟨hj, e⟩
    · cases e; cases ho'
    · obtain ⟨v, h1, h2⟩ := R.dat j d e
      exact ⟨v, h1, h2.keep (kp_put hu)⟩
  own := fun j d h hd => by
    rcases set_get h with ⟨rfl, e⟩ | ⟨hj, e⟩
    · cases e
      exact ⟨a, hs, hn⟩
    · obtain ⟨b, h1, h2⟩ := R.own j d e hd
      refine ⟨b, h1, h2.keep (kp_put hu) (upd_ne ?_)⟩
      rintro rfl
      exact hj (R.ne j i d c b e hd hi ho h1 hs)
  ne := fun j k d d' b h1 hd1 h2 hd2 e1 e2 => by
    have q : ∀ {m : Nat} {u : Cell}, (ρ.set i (some c'))[m]? = some (some u) → u.own = true → ∃ u', ρ[m]? = some (some u') ∧ u'.own = true := fun {m u} h hu => by
      rcases set_get h with ⟨rfl, _⟩ | ⟨_, e⟩
      · exact ⟨c, hi, ho⟩
      · exact ⟨u, e, hu⟩
    obtain ⟨u1, g1, g1'⟩ := q h1 hd1
    obtain ⟨u2, g2, g2'⟩ := q h2 hd2
    exact R.ne j k u1 u2 b g1 g1' g2 g2' e1 e2

/-! ### a slot is stored -/
/-- what a stored outcome makes of its slot -/
def asCell : Dx → Option Cell
  | .dat d => some (.dat d)
  | .own _ => none
  | .new c => some c
theorem Rep.store (R : Rep P w H σ ρ) {i : Nat} {v : V} {x : Dx} {c : Cell} (hi : i < ρ.length) (hx : Xv P w Hs H σ ρ v x) (hc : asCell x = some c) : Rep P w H (σ.set i (some v)) (ρ.set i (some c)) := by
  have hσ : i < σ.length := by rw [R.len]; exact hi
  have other : ∀ {j : Nat}, j ≠ i → (σ.set i (some v))[j]? = σ[j]? := fun hj => List.getElem?_set_ne (Ne.symm hj)
  have here : (σ.set i (some v))[i]? = some (some v) := List.getElem?_set_self hσ
  refine ⟨by rw [List.length_set, List.length_set]; exact R.len, fun j d h => ?_, fun j d h hd => ?_, fun j k d d' b h1 hd1 h2 hd2 e1 e2 => ?_⟩
  · rcases set_get h with ⟨rfl, e⟩ | ⟨hj, e⟩
    · cases x with
      | dat t => cases hc; cases e; exact ⟨v, here, hx⟩
      | own k => cases hc
      | new c0 =>
        cases hc; cases e
        obtain ⟨_, _, q, _⟩ := hx
        cases q
    · obtain ⟨u, h1, h2⟩ := R.dat j d e
      exact ⟨u, (other hj).trans h1, h2⟩
  · rcases set_get h with ⟨rfl, e⟩ | ⟨hj, e⟩
    · cases x with
      | dat t => cases hc; cases e; cases hd
      | own k => cases hc
      | new c0 =>
        cases hc; cases e
        obtain ⟨a, rfl, q, hw, _⟩ := hx
        exact ⟨a, here, hw⟩
    · obtain ⟨b, h1, h2⟩ := R.own j d e hd
      exact ⟨b, (other hj).trans h1, h2⟩
  · have fresh : ∀ {m : Nat} {u : Cell}, m ≠ i → ρ[m]? = some (some u) → u.own = true → σ[m]? = some (some (.ref b)) → (σ.set i (some v))[i]? = some (some (.ref b)) → c.own = true → False := fun {m u} hm h1 h2 h3 h4 h5 => by
      rw [here] at h4
      cases h4
      cases x with
      | dat t => cases hc; cases h5
      | own k => cases hc
      | new c0 =>
        cases hc
        obtain ⟨a, ea, _, _, _, hn⟩ := hx
        cases ea
        exact hn ⟨m, u, h1, h2, h3⟩
    rcases set_get h1 with ⟨rfl, g1⟩ | ⟨hj, g1⟩
    · rcases set_get h2 with ⟨rfl, g2⟩ | ⟨hk, g2⟩
      · rfl
      · cases g1
        rw [other hk] at e2
        exact (fresh hk g2 hd2 e2 e1 hd1).elim
    · rcases set_get h2 with ⟨rfl, g2⟩ | ⟨hk, g2⟩
      · cases g2
        rw [other hj] at e1
        exact (fresh hj g1 hd1 e1 e2 hd2).elim
      · rw [other hj] at e1
        rw [other hk] at e2
        exact R.ne j k d d' b g1 hd1 g2 hd2 e1 e2
theorem Le.store (R : Rep P w H σ ρ) {i : Nat} {v : V} {x : Dx} {c : Cell} {H0 : Hp} {M : Addr → Prop} (L : Le M H0 (ownA σ ρ) H) (hx : Xv P w H0 H σ ρ v x) (hc : asCell x = some c) : Le M H0 (ownA (σ.set i (some v)) (ρ.set i (some c))) H := by
  refine ⟨L.keep, L.trk, fun b m => ?_⟩
  obtain ⟨j, d, h1, h2, h3⟩ := m
  rcases set_get h1 with ⟨rfl, e⟩ | ⟨hj, e⟩
  · cases e
    rcases set_get h3 with ⟨_, e3⟩ | ⟨hj, _⟩
    · cases e3
      cases x with
      | dat t => cases hc; cases h2
      | own k => cases hc
      | new c0 =>
        cases hc
        obtain ⟨a, ea, _, _, hs, _⟩ := hx
        cases ea
        exact .inr hs
    · exact absurd rfl hj
  · rw [List.getElem?_set_ne (Ne.symm hj)] at h3
    exact L.new b ⟨j, d, e, h2, h3⟩
end
end DL
end DLb
section DLc
set_option Elab.async false
set_option linter.all false
set_option maxRecDepth 100000
set_option maxHeartbeats 1000000
/-! DLc: expressions, first part -/
namespace DL
open PySem PySem.Spec PyProof.Rows L2

section
variable {X : Cx} {a b c e : Expr} {es : List Expr} {Ea Eb Ec : Et} {pos : Pos}
/-- what holds behind an evaluation that began at (H, ρ): K of the outcomes -/
structure Bh (X : Cx) (pins : List (Addr × Obj)) (σ : L2.St) (H : Hp) (ρ : Sv) (ρ2 : Sv) (H2 : Hp) (s2 : Shared) : Prop where
  inv : Inv X pins σ H2 s2
  le : Le (ownA σ ρ) H (ownA σ ρ2) H2
  rep : Rep X.prog X.w H2 σ ρ2
theorem run1 {pins : List (Addr × Obj)} {s : Shared} {σ : L2.St} {H : Hp} {ρ : Sv} {K : Dx → Sv → Prop} (ha : DE X a Ea) (I : Inv X pins σ H s) (rep : Rep X.prog X.w H σ ρ) (h : Ea ρ K) :
    wpAny (model X.prog X.w) X.A (eval a X.env) (fun v s1 => ∃ z x ρ1 H1, Bh X pins σ H ρ ρ1 H1 s1 ∧ RelV z v ∧ K x ρ1 ∧ Xv X.prog X.w H H1 σ ρ1 z x) X.xe s :=
  thn (ha.run pins s σ H _ I ⟨ρ, K, rep, h, fun z H1 q => q⟩) fun v s1 ⟨z, H1, I1, r1, x, ρ1, k, le, rep1, hx⟩ => ⟨z, x, ρ1, H1, ⟨I1, le, rep1⟩, r1, k, hx⟩
theorem run2 {pins : List (Addr × Obj)} {s : Shared} {σ : L2.St} {H : Hp} {ρ : Sv} {K : Dx → Dx → Sv → Prop} (ha : DE X a Ea) (hb : DE X b Eb) (I : Inv X pins σ H s) (rep : Rep X.prog X.w H σ ρ)
    (h : Ea ρ fun x ρ1 => Eb ρ1 fun y ρ2 => K x y ρ2) {α : Type} {Q : α → Shared → Prop} {f : Value → Value → Sem α}
    (hf : ∀ v u s2 z z2 x y ρ2 H2, Bh X pins σ H ρ ρ2 H2 s2 → RelV z v → RelV z2 u → Xv X.prog X.w H H2 σ ρ2 z x → Xv X.prog X.w H H2 σ ρ2 z2 y → K x y ρ2 → wpAny (model X.prog X.w) X.A (f v u) Q X.xe s2) :
    wpAny (model X.prog X.w) X.A (eval a X.env) (fun v s1 => wpAny (model X.prog X.w) X.A (eval b X.env) (fun u s2 => wpAny (model X.prog X.w) X.A (f v u) Q X.xe s2) X.xe s1) X.xe s := by
  refine thn (run1 ha I rep h) fun v s1 ⟨z, x, ρ1, H1, B1, r1, k1, x1⟩ => ?_
  refine thn (run1 hb B1.inv B1.rep k1) fun u s2 ⟨z2, y, ρ2, H2, B2, r2, k2, x2⟩ => ?_
  exact hf v u s2 z z2 x y ρ2 H2 ⟨B2.inv, B1.le.trans B2.le, B2.rep⟩ r1 r2 (x1.keep B1.rep B2.le) (x2.early B1.le.trk) k2
/-- the end: an outcome is delivered from the state behind -/
theorem Bh.deliver {pins : List (Addr × Obj)} {σ : L2.St} {H : Hp} {ρ ρ2 : Sv} {H2 : Hp} {s2 : Shared} {Q : VK} {R : Dx → Sv → Prop} (B : Bh X pins σ H ρ ρ2 H2 s2) (hQ : ∀ z H3, Dl X.prog X.w σ ρ H H R z H3 → Q z H3)
    {u : Value} {s3 : Shared} (h : EP X pins σ (Dl X.prog X.w σ ρ2 H H2 R) u s3) : EP X pins σ Q u s3 := by
  obtain ⟨z, H3, I3, r3, x, ρ3, k, le, rep3, hx⟩ := h
  exact ⟨z, H3, I3, r3, hQ z H3 ⟨x, ρ3, k, B.le.trans le, rep3, hx⟩⟩

/-! ### names, constants -/
def eVar (i : Nat) : Et := fun ρ Q => match ρ[i]? with
  | some (some (.dat d)) => Q (.dat d) ρ
  | some (some _) => Q (.own i) ρ
  | _ => False
def eC (d : PyData) : Et := fun ρ Q => Q (.dat (.d d)) ρ
theorem de_var (i : Nat) {x : Str} (hN : X.N[i]? = some x := by rfl) (hv : Vis X.env.scope x := by first | exact Or.inl rfl | exact Or.inr (Or.inl rfl) | exact Or.inr (Or.inr rfl)) (hd : (x == ("__debug__" : Str)) = false := by decide)
    (hcd : (x == ("__classdict__" : Str)) = false := by decide) : DE X (.Name x pos) (eVar i) := by
  refine PE.imp (pe_var hN hv hd hcd) fun σ H Q ⟨ρ, R, rep, h, q⟩ => ?_
  unfold eVar at h
  split at h
  · rename_i d e
    obtain ⟨v, h1, h2⟩ := rep.dat i d e
    exact ⟨v, h1, q _ _ (dl_same rep h h2)⟩
  · rename_i c hc e
    have ho : c.own = true := by
      cases c with
      | dat d => exact absurd rfl (hc d)
      | lst l => rfl
      | dct l => rfl
    obtain ⟨v, h1, h2⟩ := rep.own i c e ho
    exact ⟨_, h1, q _ _ (dl_same rep h (show Xv _ _ _ _ _ _ _ (Dx.own i) from h1))⟩
  · exact h.elim
theorem de_c {v : V} {d : PyData} (h : PE X e (tC v)) (hd : ∀ H, Dv H v d) : DE X e (eC d) :=
  PE.imp h fun σ H Q ⟨ρ, R, rep, h, q⟩ => q _ _ (dl_dat rep h (hd H))
theorem de_int {i j} : DE X (.Constant (.int i) j pos) (eC (.int i)) := de_c pe_int fun _ => .int i
theorem de_bl {i j} : DE X (.Constant (.bool i) j pos) (eC (.bool i)) := de_c pe_bl fun _ => .bl i
theorem de_non {j} : DE X (.Constant .none j pos) (eC .none) := de_c pe_non fun _ => .non
theorem de_str {x j} : DE X (.Constant (.str x) j pos) (eC (.str x)) := de_c pe_str fun _ => .str x
/-- a module's constant -/
theorem de_globI {x : Str} {i : Int} (hg : Gl X x) (hm : ∃ t, X.mg x = some (.int i t)) (hd : (x == ("__debug__" : Str)) = false := by decide) : DE X (.Name x pos) (eC (.int i)) :=
  let ⟨t, hm⟩ := hm; de_c (pe_glob (v := .int i) hg hm ⟨t, rfl⟩ hd) fun _ => .int i
theorem de_globS {x : Str} {i : Str} (hg : Gl X x) (hm : ∃ t, X.mg x = some (.str i t)) (hd : (x == ("__debug__" : Str)) = false := by decide) : DE X (.Name x pos) (eC (.str i)) :=
  let ⟨t, hm⟩ := hm; de_c (pe_glob (v := .str i) hg hm ⟨t, rfl⟩ hd) fun _ => .str i

/-! ### two operands -/
def eBin (Ea Eb : Et) (B : Dx → Dx → Et) : Et := fun ρ Q => Ea ρ fun x ρ1 => Eb ρ1 fun y ρ2 => B x y ρ2 Q
/-- an operation upon two values -/
def OpD (X : Cx) (f : Value → Value → Sem Value) (B : Dx → Dx → Et) : Prop :=
  ∀ (pins : List (Addr × Obj)) (s : Shared) (σ : L2.St) (H Hs : Hp) (ρ : Sv) (x y : Dx) (v u : V) (vv uu : Value) (R : Dx → Sv → Prop), Inv X pins σ H s → Rep X.prog X.w H σ ρ → (∀ b, H b = none → Hs b = none) →
    Xv X.prog X.w Hs H σ ρ v x → Xv X.prog X.w Hs H σ ρ u y → RelV v vv → RelV u uu → B x y ρ R → wpAny (model X.prog X.w) X.A (f vv uu) (EP X pins σ (Dl X.prog X.w σ ρ Hs H R)) X.xe s
theorem OpD.of {f : Value → Value → Sem Value} {r : R2} {B : Dx → Dx → Et} (ho : OpR X f r)
    (h : ∀ (σ : L2.St) (H Hs : Hp) (ρ : Sv) (x y : Dx) (v u : V) (R : Dx → Sv → Prop), Rep X.prog X.w H σ ρ → (∀ b, H b = none → Hs b = none) → Xv X.prog X.w Hs H σ ρ v x → Xv X.prog X.w Hs H σ ρ u y → B x y ρ R →
      r v u H (Dl X.prog X.w σ ρ Hs H R)) : OpD X f B :=
  fun pins s σ H Hs ρ x y v u vv uu R I rep hs hx hy rv ru hB => ho pins s σ H v u vv uu _ I rv ru (h σ H Hs ρ x y v u R rep hs hx hy hB)
theorem de_op {op : Operator} {B : Dx → Dx → Et} (ho : OpD X (binaryOp op) B) (ha : DE X a Ea) (hb : DE X b Eb) : DE X (.BinOp a op b pos) (eBin Ea Eb B) := by
  refine ⟨fun pins s σ H Q I ⟨ρ, R, rep, h, q⟩ => ?_⟩
  refine wpAny_BinOp (run2 ha hb I rep h fun v u s2 z z2 x y ρ2 H2 B2 rv ru hx hy k => ?_)
  exact thn (ho pins s2 σ H2 H ρ2 x y z z2 v u R B2.inv B2.rep B2.le.trk hx hy rv ru k) fun w s3 q3 => B2.deliver q q3
theorem de_cmp {op : CmpOp} {B : Dx → Dx → Et} (ho : OpD X (compareOp op) B) (ha : DE X a Ea) (hb : DE X b Eb) (hm : behindInMarks op b = false := by first | exact nomark _ | rfl) : DE X (.Compare a [op] [b] pos) (eBin Ea Eb B) := by
  refine ⟨fun pins s σ H Q I ⟨ρ, R, rep, h, q⟩ => ?_⟩
  refine wpAny_Compare1 (run2 ha hb I rep h fun v u s2 z z2 x y ρ2 H2 B2 rv ru hx hy k => ?_) hm
  exact thn (ho pins s2 σ H2 H ρ2 x y z z2 v u R B2.inv B2.rep B2.le.trk hx hy rv ru k) fun w s3 q3 => B2.deliver q q3
/-- what an expression gives, as a test -/
def bOf : Dx → Option Bool
  | .dat (.d (.bool k)) => some k
  | _ => none
theorem bOf_some {P : Program} {w : World} {Hs H : Hp} {σ : L2.St} {ρ : Sv} {v : V} {x : Dx} {k : Bool} (h : bOf x = some k) (hx : Xv P w Hs H σ ρ v x) : v = .bl k := by
  unfold bOf at h
  split at h
  · cases h
    cases hx
    rfl
  · cases h
def eTest (E : Et) : Tt := fun ρ Q => E ρ fun x ρ1 => ∃ k, bOf x = some k ∧ Q k ρ1
theorem rdT_test {σ : L2.St} {H : Hp} {Q : Bool → Hp → Prop} {E : Et} (h : rdT X.prog X.w (eTest E) σ H Q) : rdE X.prog X.w E σ H fun v H' => ∃ k, v = .bl k ∧ Q k H' := by
  obtain ⟨ρ, R, rep, h, q⟩ := h
  exact ⟨ρ, _, rep, h, fun z H2 ⟨x, ρ2, ⟨k, hk, hR⟩, le, rep2, hx⟩ => ⟨k, bOf_some hk hx, q _ _ _ hR le rep2⟩⟩
/-- an expression whose value is True or False, as a test -/
theorem dt_val {E : Et} (h : DE X e E) (he : ∀ whole, isTrue e X.env whole = (do let v ← whole; standAt e.pos; holding [v] (truthy v)) := by intro _; rfl) : DT X e (eTest E) :=
  PT.imp (pt_val h he) fun σ H Q hw => rdT_test hw
theorem dt_cmp {op : CmpOp} {B : Dx → Dx → Et} (ho : OpD X (compareOp op) B) (ha : DE X a Ea) (hb : DE X b Eb) (hm : behindInMarks op b = false := by first | exact nomark _ | rfl) : DT X (.Compare a [op] [b] pos) (eTest (eBin Ea Eb B)) := by
  refine ⟨fun pins s σ H Q I ⟨ρ, R, rep, h, q⟩ => ?_⟩
  refine wpAny_isTrue_Compare1 (run2 (f := fun v u => compareOp op v u) ha hb I rep h fun v u s2 z z2 x y ρ2 H2 B2 rv ru hx hy k => ?_) hm
  refine thn (ho pins s2 σ H2 H ρ2 x y z z2 v u _ B2.inv B2.rep B2.le.trk hx hy rv ru k) fun c s3 ⟨z3, H3, I3, r3, x3, ρ3, ⟨kb, hk, hR⟩, le, rep3, hx3⟩ => ?_
  obtain rfl := bOf_some hk hx3
  cases r3
  exact wpAny_truthy_bool ⟨H3, I3, q _ _ _ hR (B2.le.trans le) rep3⟩
/-- a op1 b op2 c -/
def eChain (Ea Eb Ec : Et) (B B' : Dx → Dx → Et) : Et := fun ρ Q => Ea ρ fun x ρ1 => Eb ρ1 fun y ρ2 => B x y ρ2 fun z ρ3 => ∃ k, bOf z = some k ∧ (if k = true then Ec ρ3 fun z2 ρ4 => B' y z2 ρ4 Q else Q (.dat (.d (.bool false))) ρ3)
theorem de_chain {op op' : CmpOp} {B B' : Dx → Dx → Et} (ho : OpD X (compareOp op) B) (ho' : OpD X (compareOp op') B') (ha : DE X a Ea) (hb : DE X b Eb) (hc : DE X c Ec)
    (hm : lastMarks [op, op'] [b, c] = false := by with_unfolding_all rfl) : DE X (.Compare a [op, op'] [b, c] pos) (eChain Ea Eb Ec B B') := by
  refine ⟨fun pins s σ H Q I ⟨ρ, R, rep, h, q⟩ => ?_⟩
  refine Compare_chain (thn (run1 ha I rep h) fun v s1 ⟨z, x, ρ1, H1, B1, r1, k1, x1⟩ => chain_link (thn (run1 hb B1.inv B1.rep k1) fun u s2 ⟨z2, y, ρ2, H2, B2, r2, k2, x2⟩ => ?_)) hm
  refine thn (ho pins s2 σ H2 H ρ2 x y z z2 v u _ B2.inv B2.rep (B1.le.trans B2.le).trk (x1.keep B1.rep B2.le) (x2.early B1.le.trk) r1 r2 k2) fun cv s3 ⟨z3, H3, I3, r3, x3, ρ3, ⟨kb, hk, hR⟩, le, rep3, hx3⟩ => ?_
  obtain rfl := bOf_some hk hx3
  cases r3
  have L3 := (B1.le.trans B2.le).trans le
  refine wpAny_truthy_bool ?_
  cases kb with
  | false =>
    rw [if_neg Bool.false_ne_true] at hR
    exact ite_ff ⟨.bl false, H3, I3, rfl, q _ _ ⟨_, ρ3, hR, L3, rep3, Dv.bl false⟩⟩
  | true =>
    rw [if_pos rfl] at hR
    have y3 : Xv X.prog X.w H H3 σ ρ3 z2 y := (x2.early B1.le.trk).keep B2.rep le
    refine ite_tt (chain_last (thn (run1 hc I3 rep3 hR) fun w' s4 ⟨z4, x4, ρ4, H4, B4, r4, k4, hx4⟩ => ?_))
    refine thn (ho' pins s4 σ H4 H ρ4 y x4 z2 z4 u w' R B4.inv B4.rep (L3.trans B4.le).trk (y3.keep rep3 B4.le) (hx4.early L3.trk) r2 r4 k4) fun w2 s5 q5 => ?_
    exact (Bh.mk (X := X) (pins := pins) B4.inv (L3.trans B4.le) B4.rep).deliver q q5
theorem dt_chain {op op' : CmpOp} {B B' : Dx → Dx → Et} (ho : OpD X (compareOp op) B) (ho' : OpD X (compareOp op') B') (ha : DE X a Ea) (hb : DE X b Eb) (hc : DE X c Ec)
    (hm : lastMarks [op, op'] [b, c] = false := by with_unfolding_all rfl) : DT X (.Compare a [op, op'] [b, c] pos) (eTest (eChain Ea Eb Ec B B')) := by
  refine ⟨fun pins s σ H Q I ⟨ρ, R, rep, h, q⟩ => ?_⟩
  refine isTrue_chain (thn (run1 ha I rep h) fun v s1 ⟨z, x, ρ1, H1, B1, r1, k1, x1⟩ => test_link (thn (run1 hb B1.inv B1.rep k1) fun u s2 ⟨z2, y, ρ2, H2, B2, r2, k2, x2⟩ => ?_)) hm
  refine thn (ho pins s2 σ H2 H ρ2 x y z z2 v u _ B2.inv B2.rep (B1.le.trans B2.le).trk (x1.keep B1.rep B2.le) (x2.early B1.le.trk) r1 r2 k2) fun cv s3 ⟨z3, H3, I3, r3, x3, ρ3, ⟨kb, hk, hR⟩, le, rep3, hx3⟩ => ?_
  obtain rfl := bOf_some hk hx3
  cases r3
  have L3 := (B1.le.trans B2.le).trans le
  refine wpAny_truthy_bool ?_
  cases kb with
  | false =>
    rw [if_neg Bool.false_ne_true] at hR
    obtain ⟨k', e', hR'⟩ := hR
    cases e'
    exact ite_ff ⟨H3, I3, q _ _ _ hR' L3 rep3⟩
  | true =>
    rw [if_pos rfl] at hR
    have y3 : Xv X.prog X.w H H3 σ ρ3 z2 y := (x2.early B1.le.trk).keep B2.rep le
    refine ite_tt (test_last (thn (run1 hc I3 rep3 hR) fun w' s4 ⟨z4, x4, ρ4, H4, B4, r4, k4, hx4⟩ => ?_))
    refine thn (ho' pins s4 σ H4 H ρ4 y x4 z2 z4 u w' _ B4.inv B4.rep (L3.trans B4.le).trk (y3.keep rep3 B4.le) (hx4.early L3.trk) r2 r4 k4) fun w2 s5 ⟨z5, H5, I5, r5, x5, ρ5, ⟨k5, hk5, hR5⟩, le5, rep5, hx5⟩ => ?_
    obtain rfl := bOf_some hk5 hx5
    cases r5
    exact wpAny_truthy_bool ⟨H5, I5, q _ _ _ hR5 ((L3.trans B4.le).trans le5) rep5⟩
end
end DL
end DLc
section DLd
set_option Elab.async false
set_option linter.all false
set_option maxRecDepth 100000
set_option maxHeartbeats 1000000
/-! DLd: locking a new thing; argument lists; operators -/
namespace DL
open PySem PySem.Spec PyProof.Rows L2

section
variable {X : Cx} {a b c e : Expr} {es : List Expr} {Ea Eb Ec E : Et} {pos : Pos}
variable {P : Program} {w : World} {H H' H1 Hs : Hp} {σ : L2.St} {ρ ρ' ρ1 : Sv} {M M1 : Addr → Prop}

theorem Le.fresh (L : Le M Hs M1 H1) {p : Addr} {o : HO} (hp : Hs p = none) : Le M Hs M1 (upd H1 p o) where
  keep := fun b u e n => by rw [upd_ne (ne_of_none e hp)]; exact L.keep b u e n
  trk := fun b e => by
    by_cases hb : b = p
    · rw [hb]; exact hp
    · rw [upd_ne hb] at e; exact L.trk b e
  new := L.new
/-! ### a new thing is locked: it is data from then on -/
def frzOf : Dx → Option Dt
  | .dat d => some d
  | .new (.lst l) => some (.d (.list l))
  | .new (.dct kvs) => some (.k kvs)
  | _ => none
def eFrz (E : Et) : Et := fun ρ Q => E ρ fun x ρ1 => ∃ d, frzOf x = some d ∧ Q (.dat d) ρ1
theorem lock_it {pins : List (Addr × Obj)} {s : Shared} (I : Inv X pins σ H s) (R : Rep X.prog X.w H σ ρ) {v : V} {x : Dx} {d : Dt} (hx : Xv X.prog X.w Hs H σ ρ v x) (hd : frzOf x = some d) (L : Le M Hs (ownA σ ρ) H) :
    ∃ H', Inv X pins σ H' s ∧ Rep X.prog X.w H' σ ρ ∧ Le M Hs (ownA σ ρ) H' ∧ Dtv X.prog X.w H' v d ∧ Kp H H' := by
  cases x with
  | dat t => cases hd; exact ⟨H, I, R, L, hx, ⟨fun _ _ e => e, fun _ _ _ e => e⟩⟩
  | own i => cases hd
  | new c =>
    obtain ⟨a, rfl, ho, hw, hs, hn⟩ := hx
    have fin : ∀ {u : HO}, H a = some u → Mut (some u) → (∀ od, Kp H (upd H a (.frz od u)) → Dtv X.prog X.w (upd H a (.frz od u)) (.ref a) d) → ∃ H', Inv X pins σ H' s ∧ Rep X.prog X.w H' σ ρ ∧ Le M Hs (ownA σ ρ) H' ∧ Dtv X.prog X.w H' (.ref a) d ∧ Kp H H' := fun {u} e mu h => by
      obtain ⟨od, I'⟩ := I.lock e mu
      have k := kp_put (o := .frz od u) hw.unf
      exact ⟨_, I', R.of k fun b m => upd_ne fun z => hn (z ▸ m), L.fresh hs, h od k, k⟩
    cases c with
    | dat _ => cases ho
    | lst l =>
      cases hd
      obtain ⟨xs, e, hd⟩ := hw
      exact fin e True.intro fun od k => Dv.lst upd_same (hd.keep k)
    | dct kvs =>
      cases hd
      obtain ⟨o, vs, e, h1, h2, h3⟩ := hw
      exact fin e True.intro fun od k => ⟨a, od, o, vs, rfl, upd_same, h1.keep k, h2, h3.keep k⟩
theorem de_frz (h : DE X e E) : DE X e (eFrz E) := by
  refine ⟨fun pins s σ H Q I ⟨ρ, R, rep, hE, q⟩ => ?_⟩
  refine thn (run1 h I rep hE) fun v s1 ⟨z, x, ρ1, H1, B1, r1, ⟨d, hd, hR⟩, x1⟩ => ?_
  obtain ⟨H2, I2, R2, L2, hv, _⟩ := lock_it B1.inv B1.rep x1 hd B1.le
  exact ⟨z, H2, I2, r1, q z H2 ⟨_, ρ1, hR, L2, R2, hv⟩⟩

/-! ### argument lists -/
/-- no new thing of xs stands at a -/
def Apt (a : Addr) : List V → List Dx → Prop
  | v :: vs, x :: xs => (∀ c, x = .new c → v ≠ .ref a) ∧ Apt a vs xs
  | _, _ => True
inductive XvAll (P : Program) (w : World) (Hs H : Hp) (σ : L2.St) (ρ : Sv) : List V → List Dx → Prop
  | nil : XvAll P w Hs H σ ρ [] []
  | cons {v : V} {vs : List V} {x : Dx} {xs : List Dx} : Xv P w Hs H σ ρ v x → XvAll P w Hs H σ ρ vs xs → (∀ c a, x = .new c → v = .ref a → Apt a vs xs) → XvAll P w Hs H σ ρ (v :: vs) (x :: xs)
theorem XvAll.one' {v : V} {x : Dx} (h : Xv P w Hs H σ ρ v x) : XvAll P w Hs H σ ρ [v] [x] := .cons h .nil fun _ _ _ _ => True.intro
/-- what stood already is apart from what is new -/
theorem XvAll.apt {a : Addr} (ha : Hs a ≠ none) {vs : List V} {xs : List Dx} (h : XvAll P w Hs H σ ρ vs xs) : Apt a vs xs := by
  induction h with
  | nil => exact True.intro
  | cons hx _ _ ih =>
    refine ⟨fun c e z => ?_, ih⟩
    subst e
    obtain ⟨b, e, _, _, hs, _⟩ := hx
    rw [e] at z
    cases z
    exact ha hs
abbrev At := Sv → (List Dx → Sv → Prop) → Prop
def rdA (P : Program) (w : World) (A : At) : TA := fun σ H Q => ∃ ρ R, Rep P w H σ ρ ∧ A ρ R ∧ ∀ vs H2 xs ρ2, R xs ρ2 → Le (ownA σ ρ) H (ownA σ ρ2) H2 → Rep P w H2 σ ρ2 → XvAll P w H H2 σ ρ2 vs xs → Q vs H2
abbrev DA (X : Cx) (es : List Expr) (A : At) : Prop := PA X es (rdA X.prog X.w A)
def aNil : At := fun ρ Q => Q [] ρ
def aCons (E : Et) (A : At) : At := fun ρ Q => E ρ fun x ρ1 => A ρ1 fun xs ρ2 => Q (x :: xs) ρ2
theorem XvAll.early {H0 : Hp} (t : ∀ b, Hs b = none → H0 b = none) {vs : List V} {xs : List Dx} (h : XvAll P w Hs H σ ρ vs xs) : XvAll P w H0 H σ ρ vs xs := by
  induction h with
  | nil => exact .nil
  | cons a _ f ih => exact .cons (a.early t) ih f
theorem PA.imp {es : List Expr} {t t' : TA} (h : PA X es t) (k : ∀ σ H Q, t' σ H Q → t σ H Q) : PA X es t' := ⟨fun pos pins s σ H Q I q => h.run pos pins s σ H Q I (k σ H Q q)⟩
theorem da_nil : DA X [] aNil := PA.imp pa_nil fun σ H Q ⟨ρ, R, rep, h, q⟩ => q [] H [] ρ h (Le.refl _ _) rep .nil
theorem da_cons {A : At} (ha : DE X e E) (hr : DA X es A) (hs : starEach (e :: es) X.env = (false, eval e X.env) :: starEach es X.env := by rfl) : DA X (e :: es) (aCons E A) := by
  refine PA.imp (pa_cons ha hr hs) fun σ H Q ⟨ρ, R, rep, h, q⟩ => ?_
  refine ⟨ρ, _, rep, h, fun z H1 ⟨x, ρ1, k1, le1, rep1, x1⟩ => ⟨ρ1, _, rep1, k1, fun vs H2 xs ρ2 k2 le2 rep2 xs2 => ?_⟩⟩
  refine q _ _ (x :: xs) ρ2 k2 (le1.trans le2) rep2 (.cons (x1.keep rep1 le2) ?_ fun c a e1 e2 => ?_)
  · exact xs2.early le1.trk
  · subst e1
    obtain ⟨b, e, _, hw, _⟩ := x1
    rw [e2] at e
    cases e
    exact xs2.apt hw.some
/-- a call by values: C of the arguments' outcomes -/
def eCall (A : At) (C : List Dx → Et) : Et := fun ρ Q => A ρ fun xs ρ1 => C xs ρ1 Q
def CaD (X : Cx) (r : List V → Hp → VK → Prop) (C : List Dx → Et) : Prop :=
  ∀ (σ : L2.St) (H Hs : Hp) (ρ : Sv) (vs : List V) (xs : List Dx) (R : Dx → Sv → Prop) (Q : VK), Rep X.prog X.w H σ ρ → (∀ b, H b = none → Hs b = none) → XvAll X.prog X.w Hs H σ ρ vs xs → C xs ρ R → (∀ z H3, Dl X.prog X.w σ ρ Hs H R z H3 → Q z H3) → r vs H Q
theorem rd_call {r : List V → Hp → VK → Prop} {C : List Dx → Et} {A : At} (hC : CaD X r C) {σ : L2.St} {H : Hp} {Q : VK} (h : rdE X.prog X.w (eCall A C) σ H Q) : rdA X.prog X.w A σ H fun vs H1 => r vs H1 Q := by
  obtain ⟨ρ, R, rep, h, q⟩ := h
  refine ⟨ρ, _, rep, h, fun vs H2 xs ρ2 k le rep2 hx => hC σ H2 H ρ2 vs xs R Q rep2 le.trk hx k fun z H3 ⟨x, ρ3, hR, le3, rep3, hx3⟩ => ?_⟩
  exact q z H3 ⟨x, ρ3, hR, le.trans le3, rep3, hx3⟩
theorem de_callB {x : Str} {p : Pos} {id : String} {r : List V → Hp → VK → Prop} {C : List Dx → Et} {A : At} (hC : CaD X r C) (hc : CallR X (.builtin id) r) (hg : Gl X x) (hm : X.mg x = none) (hv : bootBuiltins x = some (.builtin id)) (ha : DA X (e :: es) A) (hn : x ≠ "__name__" := by decide)
    (hdb : (x == ("__debug__" : Str)) = false := by decide) (he : starEach (e :: es) X.env = (false, eval e X.env) :: starEach es X.env := by rfl) (hpl : (backTo pos (starEach es X.env)).any (·.1) = false := by rfl) :
    DE X (.Call (.Name x p) (e :: es) [] pos) (eCall A C) := PE.imp (pe_callB hc hg hm hv ha hn hdb he hpl) fun σ H Q h => rd_call hC h
theorem de_callTy {x : Str} {p : Pos} {id : String} {r : List V → Hp → VK → Prop} {C : List Dx → Et} {A : At} (hC : CaD X r C) (hc : CallR X (.type id) r) (hg : Gl X x) (hm : X.mg x = none) (hv : bootBuiltins x = some (.type id)) (ha : DA X (e :: es) A) (hn : x ≠ "__name__" := by decide)
    (hdb : (x == ("__debug__" : Str)) = false := by decide) (he : starEach (e :: es) X.env = (false, eval e X.env) :: starEach es X.env := by rfl) (hpl : (backTo pos (starEach es X.env)).any (·.1) = false := by rfl) :
    DE X (.Call (.Name x p) (e :: es) [] pos) (eCall A C) := PE.imp (pe_callTy hc hg hm hv ha hn hdb he hpl) fun σ H Q h => rd_call hC h
/-- two operands, by a rule of the layer beneath -/
def BiD (X : Cx) (r : R2) (B : Dx → Dx → Et) : Prop :=
  ∀ (σ : L2.St) (H Hs : Hp) (ρ : Sv) (x y : Dx) (v u : V) (R : Dx → Sv → Prop) (Q : VK), Rep X.prog X.w H σ ρ → (∀ b, H b = none → Hs b = none) → Xv X.prog X.w Hs H σ ρ v x → Xv X.prog X.w Hs H σ ρ u y → B x y ρ R →
    (∀ z H3, Dl X.prog X.w σ ρ Hs H R z H3 → Q z H3) → r v u H Q
theorem rd_bin {r : R2} {B : Dx → Dx → Et} (hB : BiD X r B) {σ : L2.St} {H : Hp} {Q : VK} (h : rdE X.prog X.w (eBin Ea Eb B) σ H Q) : tOp r (rdE X.prog X.w Ea) (rdE X.prog X.w Eb) σ H Q := by
  obtain ⟨ρ, R, rep, h, q⟩ := h
  refine ⟨ρ, _, rep, h, fun z H1 ⟨x, ρ1, k1, le1, rep1, x1⟩ => ⟨ρ1, _, rep1, k1, fun z2 H2 ⟨y, ρ2, k2, le2, rep2, x2⟩ => ?_⟩⟩
  refine hB σ H2 H ρ2 x y z z2 R Q rep2 (le1.trans le2).trk (x1.keep rep1 le2) (x2.early le1.trk) k2 fun z3 H3 ⟨x3, ρ3, hR, le3, rep3, hx3⟩ => ?_
  exact q z3 H3 ⟨x3, ρ3, hR, (le1.trans le2).trans le3, rep3, hx3⟩
theorem OpD.ofB {f : Value → Value → Sem Value} {r : R2} {B : Dx → Dx → Et} (ho : OpR X f r) (hB : BiD X r B) : OpD X f B :=
  OpD.of ho fun σ H Hs ρ x y v u R rep hs hx hy k => hB σ H Hs ρ x y v u R _ rep hs hx hy k fun z H3 h => h

/-! ### + - * // % ** -/
theorem Rd.lstI {pins : List (Addr × Obj)} {s : Shared} {p : Addr} {xs : List V} (I : Inv X pins σ H s) (h : Rd H p (.lst xs)) : xs.length ≤ sizeLine ∧ ∃ (its : List Value) (n : Nat), Vals xs its ∧ xs.length = its.length ∧ s.heap.get? p = some { cls := .type "list", data := .seq its.toArray n } := by
  obtain ⟨z, its, n, r, e⟩ := h.ok I.hok
  exact ⟨z, its, n, r, r.length, e⟩
/-- list + list, locked or not -/
def rCatR : R2 := fun x y H Q => ∃ l b xs zs, x = .ref l ∧ y = .ref b ∧ Rd H l (.lst xs) ∧ Rd H b (.lst zs) ∧ xs.length + zs.length ≤ sizeLine ∧ ∀ p, H p = none → Q (.ref p) (upd H p (.lst (xs ++ zs)))
theorem op_catR : OpR X (binaryOp .Add) rCatR := by
  intro pins s σ H x y v u Q I rx ry h
  obtain ⟨l, b, xs, zs, rfl, rfl, hH, hB, hz, q⟩ := h
  obtain rfl : v = .ref l := rx
  obtain rfl : u = .ref b := ry
  obtain ⟨_, its, n, r, hl, e⟩ := Rd.lstI I hH
  obtain ⟨_, its2, n2, r2, hl2, e2⟩ := Rd.lstI I hB
  refine PySem.P.add_list e e2 ?_ (by simp only [List.size_toArray]; omega)
  rw [show its.toArray ++ its2.toArray = (its ++ its2).toArray from by simp]
  have hzz : (xs ++ zs).length ≤ sizeLine := by simp only [List.length_append]; exact hz
  exact ⟨.ref _, _, I.lnew (t' := s.toks) (r.append r2) hzz, rfl, q _ I.fresh⟩
def bAdd : Dx → Dx → Et := fun x y ρ Q => match ddOf ρ x, ddOf ρ y with
  | some (.int i), some (.int j) => Q (.dat (.d (.int (i + j)))) ρ
  | some (.str z), some (.str t) => z.length + t.length ≤ sizeLine ∧ Q (.dat (.d (.str (z ++ t)))) ρ
  | some (.tuple l), some (.tuple m) => l.length + m.length ≤ sizeLine ∧ Q (.dat (.d (.tuple (l ++ m)))) ρ
  | some (.list l), some (.list m) => l.length + m.length ≤ sizeLine ∧ Q (.new (.lst (l ++ m))) ρ
  | _, _ => False
theorem od_add : OpD X (binaryOp .Add) bAdd := by
  refine OpD.ofB ((op_add.or op_add_str).or (op_catA.or op_catR)) fun σ H Hs ρ x y v u R Q rep hs hx hy k q => ?_
  unfold bAdd at k
  split at k
  · rename_i e1 e2
    exact .inl (.inl ⟨_, _, dd_int rep hx e1, dd_int rep hy e2, q _ _ (dl_dat rep k (.int _))⟩)
  · rename_i e1 e2
    exact .inl (.inr ⟨_, _, dd_str rep hx e1, dd_str rep hy e2, k.1, q _ _ (dl_dat rep k.2 (.str _))⟩)
  · rename_i l m e1 e2
    obtain ⟨a, xs, rfl, ha, hxs⟩ := dd_tup rep hx e1
    obtain ⟨b, ys, rfl, hb, hys⟩ := dd_tup rep hy e2
    refine .inr (.inl ⟨a, b, xs, ys, rfl, rfl, .inl (.inl ha), .inl (.inl hb), by rw [hxs.length, hys.length]; exact k.1, fun z => ?_, fun _ z => ?_, fun _ _ p hp => ?_⟩)
    · subst z
      cases hxs
      exact q _ _ (dl_dat rep k.2 (Dv.tup hb hys))
    · subst z
      cases hys
      exact q _ _ (dl_dat rep k.2 (by rw [List.append_nil]; exact Dv.tup ha hxs))
    · exact q _ _ (dl_tup rep k.2 hp (hxs.app hys))
  · rename_i l m e1 e2
    obtain ⟨a, xs, rfl, ha, hxs⟩ := dd_lst rep hx e1
    obtain ⟨b, ys, rfl, hb, hys⟩ := dd_lst rep hy e2
    exact .inr (.inr ⟨a, b, xs, ys, rfl, rfl, ha, hb, by rw [hxs.length, hys.length]; exact k.1, fun p hp => q _ _ (dl_new rep k.2 hp (hs p hp) (hxs.app hys))⟩)
  · exact k.elim
def bInt (C : Int → Int → Prop) (g : Int → Int → Int) : Dx → Dx → Et := fun x y ρ Q => match ddOf ρ x, ddOf ρ y with
  | some (.int i), some (.int j) => C i j ∧ Q (.dat (.d (.int (g i j)))) ρ
  | _, _ => False
theorem od_int {f : Value → Value → Sem Value} {C : Int → Int → Prop} {g : Int → Int → Int} (ho : OpR X f (rI C fun i j => .int (g i j))) : OpD X f (bInt C g) := by
  refine OpD.ofB ho fun σ H Hs ρ x y v u R Q rep hs hx hy k q => ?_
  unfold bInt at k
  split at k
  · rename_i e1 e2
    exact ⟨_, _, dd_int rep hx e1, dd_int rep hy e2, k.1, q _ _ (dl_dat rep k.2 (.int _))⟩
  · exact k.elim
abbrev bSub := bInt (fun _ _ => True) fun i j => i - j
theorem od_sub : OpD X (binaryOp .Sub) bSub := od_int fun pins s σ H x y v u Q I rx ry ⟨i, j, h1, h2, _, q⟩ => op_sub pins s σ H x y v u Q I rx ry ⟨i, j, h1, h2, q⟩
abbrev bMod := bInt (fun _ j => 0 < j) fun i j => i % j
theorem od_mod : OpD X (binaryOp .Mod) bMod := od_int op_mod
abbrev bFdiv := bInt CDiv fun i j => i / j
theorem od_fdiv : OpD X (binaryOp .FloorDiv) bFdiv := od_int op_fdiv
abbrev bPow := bInt CPow fun i j => i ^ j.toNat
theorem od_pow : OpD X (binaryOp .Pow) bPow := od_int op_pow
abbrev bMulI := bInt CMul fun i j => i * j
theorem od_mulI : OpD X (binaryOp .Mult) bMulI := od_int op_mul
/-- a new list * an int -/
def bRep : Dx → Dx → Et := fun x y ρ Q => match x, ddOf ρ y with
  | .new (.lst l), some (.int j) => -(2 ^ 63) ≤ j ∧ j < 2 ^ 63 ∧ l.length * j.toNat ≤ sizeLine ∧ Q (.new (.lst (List.replicate j.toNat l).flatten)) ρ
  | _, _ => False
theorem DvAll.flat {H : Hp} {vs : List V} {ds : List PyData} (h : DvAll H vs ds) : ∀ n : Nat, DvAll H (List.replicate n vs).flatten (List.replicate n ds).flatten
  | 0 => .nil
  | n + 1 => by
    simp only [List.replicate_succ, List.flatten_cons]
    exact h.app (DvAll.flat h n)
theorem od_rep : OpD X (binaryOp .Mult) bRep := by
  refine OpD.ofB op_rep fun σ H Hs ρ x y v u R Q rep hs hx hy k q => ?_
  unfold bRep at k
  split at k
  · rename_i l j e2
    obtain ⟨a, rfl, _, ⟨xs, e, hd⟩, _⟩ := hx
    exact ⟨a, j, xs, rfl, dd_int rep hy e2, e, k.1, k.2.1, by rw [hd.length]; exact k.2.2.1, fun p hp => q _ _ (dl_new rep k.2.2.2 hp (hs p hp) (hd.flat _))⟩
  · exact k.elim

/-! ### comparisons -/
def bCmp (g : Int → Int → Bool) : Dx → Dx → Et := fun x y ρ Q => match ddOf ρ x, ddOf ρ y with
  | some (.int i), some (.int j) => Q (.dat (.d (.bool (g i j)))) ρ
  | _, _ => False
theorem od_cmp {f : Value → Value → Sem Value} {g : Int → Int → Bool} (ho : OpR X f (rI0 fun i j => .bl (g i j))) : OpD X f (bCmp g) := by
  refine OpD.ofB ho fun σ H Hs ρ x y v u R Q rep hs hx hy k q => ?_
  unfold bCmp at k
  split at k
  · rename_i e1 e2
    exact ⟨_, _, dd_int rep hx e1, dd_int rep hy e2, q _ _ (dl_dat rep k (.bl _))⟩
  · exact k.elim
abbrev bLt := bCmp fun i j => decide (i < j)
abbrev bLe := bCmp fun i j => decide (i ≤ j)
abbrev bGt := bCmp fun i j => decide (j < i)
abbrev bGe := bCmp fun i j => decide (j ≤ i)
theorem od_lt : OpD X (compareOp .Lt) bLt := od_cmp op_lt
theorem od_le : OpD X (compareOp .LtE) bLe := od_cmp op_le
theorem od_gt : OpD X (compareOp .Gt) bGt := od_cmp op_gt
theorem od_ge : OpD X (compareOp .GtE) bGe := od_cmp op_ge
/-- ==, != of any two data -/
def bEq (n : Bool) : Dx → Dx → Et := fun x y ρ Q => match ddOf ρ x, ddOf ρ y with
  | some d, some e => min d.depth e.depth ≤ 60 ∧ Q (.dat (.d (.bool (if n then !PyData.eqv d e else PyData.eqv d e)))) ρ
  | _, _ => False
theorem od_eq (hu : X.A.units + 64 < cLine) : OpD X (compareOp .Eq) (bEq false) := by
  intro pins s σ H Hs ρ x y v u vv uu R I rep hs hx hy rv ru k
  unfold bEq at k
  split at k
  · rename_i d e e1 e2
    have p1 := dd_dp (K := X.K) rep hx e1
    have p2 := dd_dp (K := X.K) rep hy e2
    obtain ⟨as, r1⟩ := Dp.reads I d v vv p1 rv
    obtain ⟨bs, r2⟩ := Dp.reads I e u uu p2 ru
    have k1 := k.1
    exact PySem.SeqAt.eq_plain r1 r2 (Dp.plain p1) (Dp.plain p2) (by omega) ⟨.bl _, H, I, rfl, dl_dat rep k.2 (.bl _)⟩
  · exact k.elim
theorem od_ne (hu : X.A.units + 64 < cLine) : OpD X (compareOp .NotEq) (bEq true) := by
  intro pins s σ H Hs ρ x y v u vv uu R I rep hs hx hy rv ru k
  unfold bEq at k
  split at k
  · rename_i d e e1 e2
    have p1 := dd_dp (K := X.K) rep hx e1
    have p2 := dd_dp (K := X.K) rep hy e2
    obtain ⟨as, r1⟩ := Dp.reads I d v vv p1 rv
    obtain ⟨bs, r2⟩ := Dp.reads I e u uu p2 ru
    have k1 := k.1
    exact PySem.SeqAt.ne_plain r1 r2 (Dp.plain p1) (Dp.plain p2) (by omega) ⟨.bl _, H, I, rfl, dl_dat rep k.2 (.bl _)⟩
  · exact k.elim
/-- in, not in a list or tuple -/
def bIn (n : Bool) : Dx → Dx → Et := fun x y ρ Q => match ddOf ρ x, ddOf ρ y with
  | some d, some (.list l) => d.depth ≤ 60 ∧ Q (.dat (.d (.bool (if n then !(l.any fun y => PyData.eqv y d) else l.any fun y => PyData.eqv y d)))) ρ
  | some d, some (.tuple l) => d.depth ≤ 60 ∧ Q (.dat (.d (.bool (if n then !(l.any fun y => PyData.eqv y d) else l.any fun y => PyData.eqv y d)))) ρ
  | _, _ => False
theorem plainL {K : PySem.W.Frag} {v : V} {l : List PyData} (h : Dp K H v (.list l)) : PyData.plainAll l = true := by
  have := Dp.plain h
  simpa [PyData.plain] using this
theorem plainT {K : PySem.W.Frag} {v : V} {l : List PyData} (h : Dp K H v (.tuple l)) : PyData.plainAll l = true := by
  have := Dp.plain h
  simpa [PyData.plain] using this
theorem od_in (hu : X.A.units + 64 < cLine) : OpD X (compareOp .In) (bIn false) := by
  intro pins s σ H Hs ρ x y v u vv uu R I rep hs hx hy rv ru k
  unfold bIn at k
  split at k
  · rename_i d l e1 e2
    have p1 := dd_dp (K := X.K) rep hx e1
    have p2 := dd_dp (K := X.K) rep hy e2
    obtain ⟨as, r1⟩ := Dp.reads I d v vv p1 rv
    obtain ⟨bs, r2⟩ := Dp.reads I _ u uu p2 ru
    have k1 := k.1
    exact PySem.SeqAt.in_list_data r2 r1 (plainL p2) (Dp.plain p1) (by omega) ⟨.bl _, H, I, rfl, dl_dat rep k.2 (.bl _)⟩
  · rename_i d l e1 e2
    have p1 := dd_dp (K := X.K) rep hx e1
    have p2 := dd_dp (K := X.K) rep hy e2
    obtain ⟨as, r1⟩ := Dp.reads I d v vv p1 rv
    obtain ⟨bs, r2⟩ := Dp.reads I _ u uu p2 ru
    have k1 := k.1
    exact PySem.SeqAt.in_tuple_data r2 r1 (plainT p2) (Dp.plain p1) (by omega) ⟨.bl _, H, I, rfl, dl_dat rep k.2 (.bl _)⟩
  · exact k.elim
theorem od_notin (hu : X.A.units + 64 < cLine) : OpD X (compareOp .NotIn) (bIn true) := by
  intro pins s σ H Hs ρ x y v u vv uu R I rep hs hx hy rv ru k
  unfold bIn at k
  split at k
  · rename_i d l e1 e2
    have p1 := dd_dp (K := X.K) rep hx e1
    have p2 := dd_dp (K := X.K) rep hy e2
    obtain ⟨as, r1⟩ := Dp.reads I d v vv p1 rv
    obtain ⟨bs, r2⟩ := Dp.reads I _ u uu p2 ru
    have k1 := k.1
    exact PySem.SeqAt.notIn_list_data r2 r1 (plainL p2) (Dp.plain p1) (by omega) ⟨.bl _, H, I, rfl, dl_dat rep k.2 (.bl _)⟩
  · rename_i d l e1 e2
    have p1 := dd_dp (K := X.K) rep hx e1
    have p2 := dd_dp (K := X.K) rep hy e2
    obtain ⟨as, r1⟩ := Dp.reads I d v vv p1 rv
    obtain ⟨bs, r2⟩ := Dp.reads I _ u uu p2 ru
    have k1 := k.1
    exact PySem.SeqAt.notIn_tuple_data r2 r1 (plainT p2) (Dp.plain p1) (by omega) ⟨.bl _, H, I, rfl, dl_dat rep k.2 (.bl _)⟩
  · exact k.elim
/-- not in a text -/
def bNotInS : Dx → Dx → Et := fun x y ρ Q => match ddOf ρ x, ddOf ρ y with
  | some (.str i), some (.str j) => Q (.dat (.d (.bool (!(!(Builtin.Str.occurrences j i 0 j.length 1).isEmpty))))) ρ
  | _, _ => False
theorem od_notinS : OpD X (compareOp .NotIn) bNotInS := by
  refine OpD.ofB op_notin_str fun σ H Hs ρ x y v u R Q rep hs hx hy k q => ?_
  unfold bNotInS at k
  split at k
  · rename_i e1 e2
    exact ⟨_, _, dd_str rep hx e1, dd_str rep hy e2, q _ _ (dl_dat rep k (.bl _))⟩
  · exact k.elim
end
end DL
end DLd
section DLe
set_option Elab.async false
set_option linter.all false
set_option maxRecDepth 100000
set_option maxHeartbeats 1000000
/-! DLe: subscripts, slices, displays, and/or/not, built-in functions -/
namespace DL
open PySem PySem.Spec PyProof.Rows L2

section
variable {X : Cx} {a b c e : Expr} {es : List Expr} {Ea Eb Ec E : Et} {Ta Tb : Tt} {pos : Pos}
variable {P : Program} {w : World} {H H' H1 Hs : Hp} {σ : L2.St} {ρ ρ' ρ1 : Sv}

/-! ### a[i] -/
theorem atI_dv {vs : List V} {ds : List PyData} {i : Int} {d : PyData} (h : DvAll H vs ds) (e : atI ds i = some d) : ∃ v, atI vs i = some v ∧ Dv H v d := by
  unfold atI at e ⊢
  rw [h.length]
  cases q : ixN ds.length i with
  | none => rw [q] at e; cases e
  | some j =>
    rw [q] at e
    exact h.get (show ds[j]? = some d from e)
def bIx : Dx → Dx → Et := fun x y ρ Q => match ddOf ρ x, ddOf ρ y with
  | some (.list l), some (.int i) => ∃ d, atI l i = some d ∧ Q (.dat (.d d)) ρ
  | some (.tuple l), some (.int i) => ∃ d, atI l i = some d ∧ Q (.dat (.d d)) ρ
  | some (.str z), some (.int i) => z.length ≤ sizeLine ∧ ∃ c, atI z.cps.toList i = some c ∧ Q (.dat (.d (.str ⟨#[c]⟩))) ρ
  | _, _ => False
theorem de_ix (ha : DE X a Ea) (hb : DE X b Eb) (hs : PlainIx b := by exact fun _ _ => rfl) : DE X (.Subscript a b pos) (eBin Ea Eb bIx) := by
  refine PE.imp (pe_ix ix_seq ha hb hs) fun σ H Q h => rd_bin (fun σ H Hs ρ x y v u R Q rep hs hx hy k q => ?_) h
  unfold bIx at k
  split at k
  · rename_i l i e1 e2
    obtain ⟨a, xs, rfl, hr, hd⟩ := dd_lst rep hx e1
    obtain ⟨d, hat, hR⟩ := k
    obtain ⟨v, hv, hdv⟩ := atI_dv hd hat
    exact .inl ⟨a, xs, i, v, rfl, dd_int rep hy e2, .inl hr, hv, q _ _ (dl_dat rep hR hdv)⟩
  · rename_i l i e1 e2
    obtain ⟨a, xs, rfl, hr, hd⟩ := dd_tup rep hx e1
    obtain ⟨d, hat, hR⟩ := k
    obtain ⟨v, hv, hdv⟩ := atI_dv hd hat
    exact .inr (.inl ⟨a, xs, i, v, rfl, dd_int rep hy e2, .inl (.inl hr), hv, q _ _ (dl_dat rep hR hdv)⟩)
  · rename_i z i e1 e2
    obtain ⟨hz, cc, hat, hR⟩ := k
    exact .inr (.inr ⟨z, i, cc, dd_str rep hx e1, dd_int rep hy e2, hz, hat, q _ _ (dl_dat rep hR (.str _))⟩)
  · exact k.elim

/-! ### a[i:j] -/
def cutD {α : Type} (l : List α) (lo hi : Option Int) : List α := (l.drop (HT.sIx l.length 0 lo)).take (HT.sIx l.length l.length hi - HT.sIx l.length 0 lo)
theorem DvAll.cut {vs : List V} {ds : List PyData} (h : DvAll H vs ds) (lo hi : Option Int) : DvAll H (cutV vs lo hi) (cutD ds lo hi) := by
  unfold cutV cutD
  rw [h.length]
  exact (h.dr _).tk _
abbrev Ot := Sv → (Option Int → Sv → Prop) → Prop
def rdO (P : Program) (w : World) (O : Ot) : TO := fun σ H Q => ∃ ρ R, Rep P w H σ ρ ∧ O ρ R ∧ ∀ i ρ2 H2, R i ρ2 → Le (ownA σ ρ) H (ownA σ ρ2) H2 → Rep P w H2 σ ρ2 → Q i H2
abbrev DO (X : Cx) (e : Option Expr) (O : Ot) : Prop := PO X e (rdO X.prog X.w O)
def oNo : Ot := fun ρ Q => Q none ρ
def oYes (E : Et) : Ot := fun ρ Q => E ρ fun x ρ1 => ∃ i, ddOf ρ1 x = some (.int i) ∧ Q (some i) ρ1
theorem do_no : DO X none oNo := ⟨fun pins s σ H Q I ⟨ρ, R, rep, h, q⟩ => po_none.run pins s σ H Q I (q none ρ H h (Le.refl _ _) rep)⟩
theorem do_yes (h : DE X e E) : DO X (some e) (oYes E) := ⟨fun pins s σ H Q I ⟨ρ, R, rep, hE, q⟩ => (po_some h).run pins s σ H Q I
  ⟨ρ, _, rep, hE, fun z H2 ⟨x, ρ2, ⟨i, hi, hR⟩, le, rep2, hx⟩ => ⟨i, dd_int rep2 hx hi, q _ _ _ hR le rep2⟩⟩⟩
def eSl (E : Et) (O1 O2 : Ot) : Et := fun ρ Q => E ρ fun x ρ1 => O1 ρ1 fun i ρ2 => O2 ρ2 fun j ρ3 => match ddOf ρ3 x with
  | some (.list l) => Q (.new (.lst (cutD l i j))) ρ3
  | some (.tuple l) => Q (.dat (.d (.tuple (cutD l i j)))) ρ3
  | some (.str z) => z.length ≤ sizeLine ∧ Q (.dat (.d (.str (cutS z i j)))) ρ3
  | _ => False
theorem cutD_whole {l : List PyData} {lo hi : Option Int} (h : HT.sIx l.length 0 lo = 0 ∧ HT.sIx l.length l.length hi = l.length) : cutD l lo hi = l := by
  unfold cutD
  rw [h.1, h.2, List.drop_zero, Nat.sub_zero, List.take_length]
theorem de_sl {lo hi : Option Expr} {p2 : Pos} {O1 O2 : Ot} (h : DE X e E) (h1 : DO X lo O1) (h2 : DO X hi O2) : DE X (.Subscript e (.Slice lo hi none p2) pos) (eSl E O1 O2) := by
  refine PE.imp (pe_slice (sl_list.or (sl_tupA.or sl_str)) h h1 h2) fun σ H Q ⟨ρ, R, rep, hE, q⟩ => ?_
  refine ⟨ρ, _, rep, hE, fun z H1 ⟨x, ρ1, k1, le1, rep1, x1⟩ => ⟨ρ1, _, rep1, k1, fun i ρ2 H2 k2 le2 rep2 => ⟨ρ2, _, rep2, k2, fun j ρ3 H3 k3 le3 rep3 => ?_⟩⟩⟩
  have L := (le1.trans le2).trans le3
  have x3 := (x1.keep rep1 le2).keep rep2 le3
  have q' : ∀ {z : V} {H4 : Hp}, Dl X.prog X.w σ ρ3 H H3 R z H4 → Q z H4 := fun {z H4} ⟨x4, ρ4, hR, le4, rep4, hx4⟩ => q z H4 ⟨x4, ρ4, hR, L.trans le4, rep4, hx4⟩
  split at k3
  · rename_i l e1
    obtain ⟨a, xs, rfl, hr, hd⟩ := dd_lst rep3 x3 e1
    exact .inl ⟨a, xs, rfl, .inl hr, fun p hp => q' (dl_new rep3 k3 hp (L.trk p hp) (hd.cut i j))⟩
  · rename_i l e1
    obtain ⟨a, xs, rfl, hr, hd⟩ := dd_tup rep3 x3 e1
    refine .inr (.inl ⟨a, xs, rfl, .inl (.inl hr), fun hw => ?_, fun _ p hp => q' (dl_tup rep3 k3 hp (hd.cut i j))⟩)
    rw [hd.length] at hw
    rw [cutD_whole hw] at k3
    exact q' (dl_dat rep3 k3 (Dv.tup hr hd))
  · rename_i z e1
    exact .inr (.inr ⟨z, dd_str rep3 x3 e1, k3.1, q' (dl_dat rep3 k3.2 (.str _))⟩)
  · exact k3.elim

/-! ### displays -/
/-- all are data (new things are to be locked ahead) -/
inductive AllD : List Dx → List PyData → Prop
  | nil : AllD [] []
  | cons {d : PyData} {xs : List Dx} {ds : List PyData} : AllD xs ds → AllD (.dat (.d d) :: xs) (d :: ds)
theorem AllD.dv {vs : List V} : ∀ {xs : List Dx} {ds : List PyData}, XvAll P w Hs H σ ρ vs xs → AllD xs ds → DvAll H vs ds := by
  intro xs ds h
  induction h generalizing ds with
  | nil => intro q; cases q; exact .nil
  | cons a _ _ ih => intro q; cases q with | cons t => exact .cons a (ih t)
def dats : List Dx → Option (List PyData)
  | [] => some []
  | .dat (.d d) :: xs => (dats xs).map (d :: ·)
  | _ => none
theorem dats_all : ∀ {xs : List Dx} {ds : List PyData}, dats xs = some ds → AllD xs ds
  | [], _, h => by cases h; exact .nil
  | .dat (.d d) :: xs, ds, h => by
    rw [dats] at h
    obtain ⟨r, h1, rfl⟩ := Option.map_eq_some_iff.mp h
    exact .cons (dats_all h1)
  | .dat (.k _) :: xs, ds, h => by simp [dats] at h
  | .dat (.kk _) :: xs, ds, h => by simp [dats] at h
  | .own _ :: xs, ds, h => by simp [dats] at h
  | .new _ :: xs, ds, h => by simp [dats] at h
def eTup (A : At) : Et := fun ρ Q => A ρ fun xs ρ1 => ∃ ds, dats xs = some ds ∧ ds.length ≤ 30 ∧ Q (.dat (.d (.tuple ds))) ρ1
def eLst (A : At) : Et := fun ρ Q => A ρ fun xs ρ1 => ∃ ds, dats xs = some ds ∧ ds.length ≤ 30 ∧ Q (.new (.lst ds)) ρ1
theorem small30 {n : Nat} (h : n ≤ 30) : n ≤ sizeLine := Nat.le_trans h (by decide)
theorem de_tup {A : At} {x1} (h : DA X es A) : DE X (.Tuple es x1 pos) (eTup A) := by
  refine PE.imp (pe_tup h) fun σ H Q ⟨ρ, R, rep, hA, q⟩ => ⟨ρ, _, rep, hA, fun vs H2 xs ρ2 ⟨ds, hd, hl, hR⟩ le rep2 hx => ?_⟩
  have hv := (dats_all hd).dv hx
  refine ⟨by rw [hv.length]; exact small30 hl, fun p hp => q _ _ ?_⟩
  obtain ⟨x3, ρ3, r3, le3, rep3, hx3⟩ := dl_tup (Hs := H) rep2 hR hp hv
  exact ⟨x3, ρ3, r3, le.trans le3, rep3, hx3⟩
theorem de_lst {A : At} (h : DA X es A) : DE X (.List es pos) (eLst A) := by
  refine PE.imp (pe_lst h) fun σ H Q ⟨ρ, R, rep, hA, q⟩ => ⟨ρ, _, rep, hA, fun vs H2 xs ρ2 ⟨ds, hd, hl, hR⟩ le rep2 hx => ?_⟩
  have hv := (dats_all hd).dv hx
  refine ⟨by rw [hv.length]; exact small30 hl, fun p hp => q _ _ ?_⟩
  obtain ⟨x3, ρ3, r3, le3, rep3, hx3⟩ := dl_new (Hs := H) rep2 hR hp (le.trk p hp) hv
  exact ⟨x3, ρ3, r3, le.trans le3, rep3, hx3⟩

/-! ### and, or, not, if .. else -/
def tAndD (T U : Tt) : Tt := fun ρ Q => T ρ fun b ρ1 => if b = true then U ρ1 Q else Q false ρ1
def tOrD (T U : Tt) : Tt := fun ρ Q => T ρ fun b ρ1 => if b = true then Q true ρ1 else U ρ1 Q
def tNotD (T : Tt) : Tt := fun ρ Q => T ρ fun b ρ1 => Q (!b) ρ1
abbrev DW (X : Cx) (e : Expr) (T : Tt) : Prop := PW X e (rdT X.prog X.w T)
theorem PW.imp {t t' : TT} (h : PW X e t) (k : ∀ σ H Q, t' σ H Q → t σ H Q) : PW X e t' := ⟨fun wh pins s σ H Q I q => h.run wh pins s σ H Q I (k σ H Q q)⟩
variable {rest : List Expr}
theorem dw_and1 (h : DT X a Ta) : DW X (.BoolOp .And [a] pos) Ta := pw_and1 h
theorem dw_or1 (h : DT X a Ta) : DW X (.BoolOp .Or [a] pos) Ta := pw_or1 h
theorem dw_and (h : DT X a Ta) (h2 : DW X (.BoolOp .And (b :: rest) pos) Tb) : DW X (.BoolOp .And (a :: b :: rest) pos) (tAndD Ta Tb) := by
  refine PW.imp (pw_and h h2) fun σ H Q ⟨ρ, R, rep, hE, q⟩ => ⟨ρ, _, rep, hE, fun bb ρ2 H2 k le rep2 => ?_⟩
  cases bb with
  | true => exact ⟨ρ2, R, rep2, k, fun b' ρ' H3 r le3 rep3 => q _ _ _ r (le.trans le3) rep3⟩
  | false => exact q _ _ _ k le rep2
theorem dw_or (h : DT X a Ta) (h2 : DW X (.BoolOp .Or (b :: rest) pos) Tb) : DW X (.BoolOp .Or (a :: b :: rest) pos) (tOrD Ta Tb) := by
  refine PW.imp (pw_or h h2) fun σ H Q ⟨ρ, R, rep, hE, q⟩ => ⟨ρ, _, rep, hE, fun bb ρ2 H2 k le rep2 => ?_⟩
  cases bb with
  | false => exact ⟨ρ2, R, rep2, k, fun b' ρ' H3 r le3 rep3 => q _ _ _ r (le.trans le3) rep3⟩
  | true => exact q _ _ _ k le rep2
theorem dt_w (h : DW X e Ta) : DT X e Ta := h.pt
theorem dt_not (h : DT X a Ta) : DT X (.UnaryOp .Not a pos) (tNotD Ta) :=
  PT.imp (pt_not h) fun σ H Q ⟨ρ, R, rep, hE, q⟩ => ⟨ρ, _, rep, hE, fun bb ρ2 H2 k le rep2 => q _ _ _ k le rep2⟩
/-- .. as values -/
def eAnd (Ea Eb : Et) : Et := fun ρ Q => Ea ρ fun x ρ1 => ∃ k, bOf x = some k ∧ if k = true then Eb ρ1 Q else Q (.dat (.d (.bool false))) ρ1
def eOr (Ea Eb : Et) : Et := fun ρ Q => Ea ρ fun x ρ1 => ∃ k, bOf x = some k ∧ if k = true then Q (.dat (.d (.bool true))) ρ1 else Eb ρ1 Q
def eNot (Ea : Et) : Et := fun ρ Q => Ea ρ fun x ρ1 => ∃ k, bOf x = some k ∧ Q (.dat (.d (.bool (!k)))) ρ1
theorem Dl.early {ρ0 : Sv} {H0 : Hp} {R : Dx → Sv → Prop} {z : V} {H3 : Hp} (L : Le (ownA σ ρ0) H0 (ownA σ ρ) H) (h : Dl P w σ ρ H H R z H3) : Dl P w σ ρ0 H0 H0 R z H3 := by
  obtain ⟨x, ρ', r, le, rep, hx⟩ := h
  exact ⟨x, ρ', r, L.trans le, rep, hx.early L.trk⟩
theorem de_one {op} (h : DE X a Ea) : DE X (.BoolOp op [a] pos) Ea := pe_one h
theorem de_and (h : DE X a Ea) (h2 : DE X (.BoolOp .And (b :: rest) pos) Eb) : DE X (.BoolOp .And (a :: b :: rest) pos) (eAnd Ea Eb) := by
  refine PE.imp (pe_and h h2) fun σ H Q ⟨ρ, R, rep, hE, q⟩ => ⟨ρ, _, rep, hE, fun z H2 ⟨x, ρ2, ⟨k, hk, hR⟩, le, rep2, hx⟩ => ⟨k, bOf_some hk hx, ?_⟩⟩
  cases k with
  | true => exact iteT ⟨ρ2, R, rep2, by rw [if_pos rfl] at hR; exact hR, fun z H3 d => q _ _ (d.early le)⟩
  | false =>
    rw [if_neg Bool.false_ne_true] at hR
    exact iteF (q _ _ ⟨_, ρ2, hR, le, rep2, Dv.bl false⟩)
theorem de_or (h : DE X a Ea) (h2 : DE X (.BoolOp .Or (b :: rest) pos) Eb) : DE X (.BoolOp .Or (a :: b :: rest) pos) (eOr Ea Eb) := by
  refine PE.imp (pe_or h h2) fun σ H Q ⟨ρ, R, rep, hE, q⟩ => ⟨ρ, _, rep, hE, fun z H2 ⟨x, ρ2, ⟨k, hk, hR⟩, le, rep2, hx⟩ => ⟨k, bOf_some hk hx, ?_⟩⟩
  cases k with
  | false => exact iteF ⟨ρ2, R, rep2, by rw [if_neg Bool.false_ne_true] at hR; exact hR, fun z H3 d => q _ _ (d.early le)⟩
  | true =>
    rw [if_pos rfl] at hR
    exact iteT (q _ _ ⟨_, ρ2, hR, le, rep2, Dv.bl true⟩)
theorem de_not (h : DE X a Ea) : DE X (.UnaryOp .Not a pos) (eNot Ea) :=
  PE.imp (pe_not h) fun σ H Q ⟨ρ, R, rep, hE, q⟩ => ⟨ρ, _, rep, hE, fun z H2 ⟨x, ρ2, ⟨k, hk, hR⟩, le, rep2, hx⟩ => ⟨k, bOf_some hk hx, q _ _ ⟨_, ρ2, hR, le, rep2, Dv.bl _⟩⟩⟩
def eIf (T : Tt) (Ea Eb : Et) : Et := fun ρ Q => T ρ fun b ρ1 => if b = true then Ea ρ1 Q else Eb ρ1 Q
theorem de_if (hc : DT X c Ta) (ha : DE X a Ea) (hb : DE X b Eb) : DE X (.IfExp c a b pos) (eIf Ta Ea Eb) := by
  refine PE.imp (pe_ifExp hc ha hb) fun σ H Q ⟨ρ, R, rep, hE, q⟩ => ⟨ρ, _, rep, hE, fun bb ρ2 H2 k le rep2 => ?_⟩
  cases bb with
  | true => exact iteT ⟨ρ2, R, rep2, by rw [if_pos rfl] at k; exact k, fun z H3 d => q _ _ (d.early le)⟩
  | false => exact iteF ⟨ρ2, R, rep2, by rw [if_neg Bool.false_ne_true] at k; exact k, fun z H3 d => q _ _ (d.early le)⟩
theorem de_neg (h : DE X a Ea) : DE X (.UnaryOp .USub a pos) (fun ρ Q => Ea ρ fun x ρ1 => ∃ i, ddOf ρ1 x = some (.int i) ∧ Q (.dat (.d (.int (-i)))) ρ1) :=
  PE.imp (pe_un un_neg h) fun σ H Q ⟨ρ, R, rep, hE, q⟩ => ⟨ρ, _, rep, hE, fun z H2 ⟨x, ρ2, ⟨i, hi, hR⟩, le, rep2, hx⟩ => ⟨i, dd_int rep2 hx hi, q _ _ ⟨_, ρ2, hR, le, rep2, Dv.int _⟩⟩⟩
end
end DL
end DLe
section DLf
set_option Elab.async false
set_option linter.all false
set_option maxRecDepth 100000
set_option maxHeartbeats 1000000
/-! DLf: built-in functions, methods of own lists -/
namespace DL
open PySem PySem.Spec PyProof.Rows L2

section
variable {X : Cx} {a b c e : Expr} {es : List Expr} {Ea Eb Ec E : Et} {pos : Pos}
variable {P : Program} {w : World} {H H' H1 Hs : Hp} {σ : L2.St} {ρ ρ' ρ1 : Sv}

theorem XvAll.one {vs : List V} {x : Dx} (h : XvAll P w Hs H σ ρ vs [x]) : ∃ v, vs = [v] ∧ Xv P w Hs H σ ρ v x := by
  cases h with | cons a t _ => cases t; exact ⟨_, rfl, a⟩
theorem XvAll.two {vs : List V} {x y : Dx} (h : XvAll P w Hs H σ ρ vs [x, y]) : ∃ v u, vs = [v, u] ∧ Xv P w Hs H σ ρ v x ∧ Xv P w Hs H σ ρ u y := by
  cases h with | cons a t _ => cases t with | cons b t _ => cases t; exact ⟨_, _, rfl, a, b⟩

/-! ### len, int, abs, min, tuple, list -/
def cLen : List Dx → Et := fun xs ρ Q => match xs with
  | [x] => match ddOf ρ x with
    | some (.list l) => Q (.dat (.d (.int l.length))) ρ
    | some (.tuple l) => Q (.dat (.d (.int l.length))) ρ
    | some (.str z) => z.length ≤ sizeLine ∧ Q (.dat (.d (.int z.length))) ρ
    | _ => False
  | _ => False
theorem ca_len : CaD X (fun xs H Q => (∃ p ys, xs = [.ref p] ∧ (SqL X.K H p ys ∨ SqT X.K H p ys) ∧ Q (.int ys.length) H) ∨ (∃ z, xs = [.str z] ∧ z.length ≤ sizeLine ∧ Q (.int z.length) H)) cLen := by
  intro σ H Hs ρ vs xs R Q rep hs hx k q
  unfold cLen at k
  split at k
  · rename_i x
    obtain ⟨v, rfl, hv⟩ := hx.one
    split at k
    · rename_i l e1
      obtain ⟨a, xs, rfl, hr, hd⟩ := dd_lst rep hv e1
      exact .inl ⟨a, xs, rfl, .inl (.inl hr), q _ _ (dl_dat rep k (by rw [hd.length]; exact .int _))⟩
    · rename_i l e1
      obtain ⟨a, xs, rfl, hr, hd⟩ := dd_tup rep hv e1
      exact .inl ⟨a, xs, rfl, .inr (.inl (.inl hr)), q _ _ (dl_dat rep k (by rw [hd.length]; exact .int _))⟩
    · rename_i z e1
      exact .inr ⟨z, by rw [dd_str rep hv e1], k.1, q _ _ (dl_dat rep k.2 (.int _))⟩
    · exact k.elim
  · exact k.elim
theorem de_len {x p} {A : At} (hx : x = ("len" : Str)) (hg : Gl X x) (hm : X.mg "len" = none) (ha : DA X (e :: es) A) (he : starEach (e :: es) X.env = (false, eval e X.env) :: starEach es X.env := by rfl) (hpl : (backTo pos (starEach es X.env)).any (·.1) = false := by rfl) :
    DE X (.Call (.Name x p) (e :: es) [] pos) (eCall A cLen) := by
  subst hx
  exact de_callB ca_len (call_len_seq.or call_len_str) hg hm PySem.boot_len ha (by decide) (by decide) he hpl
def cIntI : List Dx → Et := fun xs ρ Q => match xs with
  | [x] => match ddOf ρ x with
    | some (.int i) => Q (.dat (.d (.int i))) ρ
    | some (.bool k) => Q (.dat (.d (.int (if k then 1 else 0)))) ρ
    | _ => False
  | _ => False
theorem ca_int : CaD X (fun xs H Q => (∃ i, xs = [.int i] ∧ Q (.int i) H) ∨ ∃ k, xs = [.bl k] ∧ Q (.int (if k then 1 else 0)) H) cIntI := by
  intro σ H Hs ρ vs xs R Q rep hs hx k q
  unfold cIntI at k
  split at k
  · rename_i x
    obtain ⟨v, rfl, hv⟩ := hx.one
    split at k
    · rename_i l e1
      exact .inl ⟨_, by rw [dd_int rep hv e1], q _ _ (dl_dat rep k (.int _))⟩
    · rename_i l e1
      exact .inr ⟨_, by rw [dd_bl rep hv e1], q _ _ (dl_dat rep k (.int _))⟩
    · exact k.elim
  · exact k.elim
def cAbs : List Dx → Et := fun xs ρ Q => match xs with
  | [x] => match ddOf ρ x with
    | some (.int i) => Q (.dat (.d (.int (if i < 0 then -i else i)))) ρ
    | _ => False
  | _ => False
theorem ca_abs : CaD X (fun xs H Q => ∃ i, xs = [.int i] ∧ Q (.int (if i < 0 then -i else i)) H) cAbs := by
  intro σ H Hs ρ vs xs R Q rep hs hx k q
  unfold cAbs at k
  split at k
  · rename_i x
    obtain ⟨v, rfl, hv⟩ := hx.one
    split at k
    · rename_i l e1
      exact ⟨_, by rw [dd_int rep hv e1], q _ _ (dl_dat rep k (.int _))⟩
    · exact k.elim
  · exact k.elim
def cMin : List Dx → Et := fun xs ρ Q => match xs with
  | [x, y] => match ddOf ρ x, ddOf ρ y with
    | some (.int i), some (.int j) => Q (.dat (.d (.int (if j < i then j else i)))) ρ
    | _, _ => False
  | _ => False
theorem ca_min : CaD X (fun xs H Q => ∃ i j, xs = [.int i, .int j] ∧ Q (.int (if j < i then j else i)) H) cMin := by
  intro σ H Hs ρ vs xs R Q rep hs hx k q
  unfold cMin at k
  split at k
  · rename_i x y
    obtain ⟨v, u, rfl, hv, hu⟩ := hx.two
    split at k
    · rename_i l m e1 e2
      exact ⟨_, _, by rw [dd_int rep hv e1, dd_int rep hu e2], q _ _ (dl_dat rep k (.int _))⟩
    · exact k.elim
  · exact k.elim
def cTup : List Dx → Et := fun xs ρ Q => match xs with
  | [x] => match ddOf ρ x with
    | some (.list l) => Q (.dat (.d (.tuple l))) ρ
    | some (.tuple l) => Q (.dat (.d (.tuple l))) ρ
    | _ => False
  | _ => False
theorem ca_tup : CaD X (fun xs H Q => ∃ p ys, xs = [.ref p] ∧ ((SqL X.K H p ys ∧ ∀ l, H l = none → Q (.ref l) (upd H l (.tup ys))) ∨ (SqT X.K H p ys ∧ Q (.ref p) H))) cTup := by
  intro σ H Hs ρ vs xs R Q rep hs hx k q
  unfold cTup at k
  split at k
  · rename_i x
    obtain ⟨v, rfl, hv⟩ := hx.one
    split at k
    · rename_i l e1
      obtain ⟨a, xs, rfl, hr, hd⟩ := dd_lst rep hv e1
      exact ⟨a, xs, rfl, .inl ⟨.inl hr, fun p hp => q _ _ (dl_tup rep k hp hd)⟩⟩
    · rename_i l e1
      obtain ⟨a, xs, rfl, hr, hd⟩ := dd_tup rep hv e1
      exact ⟨a, xs, rfl, .inr ⟨.inl (.inl hr), q _ _ (dl_dat rep k (.tup hr hd))⟩⟩
    · exact k.elim
  · exact k.elim
def cLst : List Dx → Et := fun xs ρ Q => match xs with
  | [x] => match ddOf ρ x with
    | some (.list l) => Q (.new (.lst l)) ρ
    | some (.tuple l) => Q (.new (.lst l)) ρ
    | _ => False
  | _ => False
theorem ca_lst : CaD X (fun xs H Q => ∃ p ys, xs = [.ref p] ∧ (SqL X.K H p ys ∨ SqT X.K H p ys) ∧ ∀ l, H l = none → Q (.ref l) (upd H l (.lst ys))) cLst := by
  intro σ H Hs ρ vs xs R Q rep hs hx k q
  unfold cLst at k
  split at k
  · rename_i x
    obtain ⟨v, rfl, hv⟩ := hx.one
    split at k
    · rename_i l e1
      obtain ⟨a, xs, rfl, hr, hd⟩ := dd_lst rep hv e1
      exact ⟨a, xs, rfl, .inl (.inl hr), fun p hp => q _ _ (dl_new rep k hp (hs p hp) hd)⟩
    · rename_i l e1
      obtain ⟨a, xs, rfl, hr, hd⟩ := dd_tup rep hv e1
      exact ⟨a, xs, rfl, .inr (.inl (.inl hr)), fun p hp => q _ _ (dl_new rep k hp (hs p hp) hd)⟩
    · exact k.elim
  · exact k.elim
section
variable {x : Str} {p : Pos} {A : At}
theorem de_intc (hx : x = ("int" : Str)) (hg : Gl X x) (hm : X.mg "int" = none) (ha : DA X (e :: es) A) (he : starEach (e :: es) X.env = (false, eval e X.env) :: starEach es X.env := by rfl) (hpl : (backTo pos (starEach es X.env)).any (·.1) = false := by rfl) :
    DE X (.Call (.Name x p) (e :: es) [] pos) (eCall A cIntI) := by
  subst hx
  exact de_callTy ca_int call_int1 hg hm (by decide +kernel) ha (by decide) (by decide) he hpl
theorem de_abs (hx : x = ("abs" : Str)) (hg : Gl X x) (hm : X.mg "abs" = none) (ha : DA X (e :: es) A) (he : starEach (e :: es) X.env = (false, eval e X.env) :: starEach es X.env := by rfl) (hpl : (backTo pos (starEach es X.env)).any (·.1) = false := by rfl) :
    DE X (.Call (.Name x p) (e :: es) [] pos) (eCall A cAbs) := by
  subst hx
  exact de_callB ca_abs call_abs hg hm (by decide +kernel) ha (by decide) (by decide) he hpl
theorem de_min (hc : X.calm = true) (hx : x = ("min" : Str)) (hg : Gl X x) (hm : X.mg "min" = none) (ha : DA X (e :: es) A) (he : starEach (e :: es) X.env = (false, eval e X.env) :: starEach es X.env := by rfl) (hpl : (backTo pos (starEach es X.env)).any (·.1) = false := by rfl) :
    DE X (.Call (.Name x p) (e :: es) [] pos) (eCall A cMin) := by
  subst hx
  exact de_callB ca_min (call_min2 hc) hg hm (by decide +kernel) ha (by decide) (by decide) he hpl
theorem de_tupc (hx : x = ("tuple" : Str)) (hg : Gl X x) (hm : X.mg "tuple" = none) (ha : DA X (e :: es) A) (he : starEach (e :: es) X.env = (false, eval e X.env) :: starEach es X.env := by rfl) (hpl : (backTo pos (starEach es X.env)).any (·.1) = false := by rfl) :
    DE X (.Call (.Name x p) (e :: es) [] pos) (eCall A cTup) := by
  subst hx
  exact de_callTy ca_tup call_tuple_of hg hm (by decide +kernel) ha (by decide) (by decide) he hpl
theorem de_lstc (hx : x = ("list" : Str)) (hg : Gl X x) (hm : X.mg "list" = none) (ha : DA X (e :: es) A) (he : starEach (e :: es) X.env = (false, eval e X.env) :: starEach es X.env := by rfl) (hpl : (backTo pos (starEach es X.env)).any (·.1) = false := by rfl) :
    DE X (.Call (.Name x p) (e :: es) [] pos) (eCall A cLst) := by
  subst hx
  exact de_callTy ca_lst call_list_of hg hm (by decide +kernel) ha (by decide) (by decide) he hpl
end
/-- list(range(n)) -/
def rgD (n : Nat) : List PyData := (List.range n).map fun i => .int (i : Nat)
theorem rgV_dv (n : Nat) : DvAll H (rgV 0 (n : Int)) (rgD n) := by
  unfold rgV rgD
  have e : ((n : Int) - 0).toNat = n := by omega
  rw [e]
  generalize List.range n = l
  induction l with
  | nil => exact .nil
  | cons i r ih =>
    rw [List.map_cons, List.map_cons]
    refine .cons ?_ ih
    rw [Int.zero_add]
    exact .int _
theorem de_listRg {x y : Str} {p p1 pos1 : Pos} (hx : x = ("list" : Str)) (hy : y = ("range" : Str)) (hc : X.calm = true) (hg : Gl X x) (hm : X.mg "list" = none) (hg1 : Gl X y) (hm1 : X.mg "range" = none) (ha : DE X a Ea) (na : starEach [a] X.env = (false, eval a X.env) :: starEach [] X.env := by rfl)
    (nb : starEach [.Call (.Name y p1) [a] [] pos1] X.env = (false, eval (.Call (.Name y p1) [a] [] pos1) X.env) :: starEach [] X.env := by rfl) :
    DE X (.Call (.Name x p) [.Call (.Name y p1) [a] [] pos1] [] pos) (fun ρ Q => Ea ρ fun z ρ1 => ∃ n : Nat, ddOf ρ1 z = some (.int n) ∧ n ≤ 1000 ∧ Q (.new (.lst (rgD n))) ρ1) := by
  subst hx hy
  refine PE.imp (pe_listRg hc hg hm (prg_1 hg1 hm1 ha na) nb) fun σ H Q ⟨ρ, R, rep, hE, q⟩ => ⟨ρ, _, rep, hE, fun z H2 ⟨x, ρ2, ⟨n, hn, hl, hR⟩, le, rep2, hx⟩ => ?_⟩
  refine ⟨n, dd_int rep2 hx hn, RgOk.of_le (by omega) (by omega) (by omega) (by omega), fun p hp => q _ _ ?_⟩
  obtain ⟨x3, ρ3, r3, le3, rep3, hx3⟩ := dl_new (Hs := H) rep2 hR hp (le.trk p hp) (rgV_dv n)
  exact ⟨x3, ρ3, r3, le.trans le3, rep3, hx3⟩

/-! ### isinstance -/
def isT (T : String) : PyData → Option Bool := fun d =>
  if T = "int" then some (match d with | .int _ => true | .bool _ => true | _ => false)
  else if T = "bool" then some (match d with | .bool _ => true | _ => false)
  else if T = "str" then some (match d with | .str _ => true | _ => false)
  else if T = "tuple" then some (match d with | .tuple _ => true | _ => false)
  else none
theorem call_isD : CallR X (.builtin "isinstance") fun vs H Q => ∃ v d T k, vs = [v, .ty T] ∧ Dp X.K H v d ∧ isT T d = some k ∧ Q (.bl k) H := by
  intro pins s σ H xs us Q I r h
  obtain ⟨v, d, T, k, rfl, hd, hk, q⟩ := h
  obtain ⟨u, u2, rfl, r1, r2⟩ := vals2 r
  obtain rfl : u2 = .type T := r2
  obtain ⟨as, rd⟩ := Dp.reads I d v u hd r1
  have fin : ∀ (tk : Nat) (k' : Bool), k' = k → EP X pins σ Q (.bool k') { s with toks := tk } := fun tk k' e => by subst e; exact ⟨.bl _, H, I.tok tk, rfl, q⟩
  unfold isT at hk
  split at hk
  · rename_i e
    subst e
    refine PySem.W.isinstance_int_data rd fun tk _ => fin tk _ ?_
    rw [← Option.some.inj hk]
    cases d <;> rfl
  · split at hk
    · rename_i e
      subst e
      refine PySem.W.isinstance_bool_data rd fun tk _ => fin tk _ ?_
      rw [← Option.some.inj hk]
      cases d <;> rfl
    · split at hk
      · rename_i e
        subst e
        refine PySem.W.isinstance_str_data rd fun tk _ => fin tk _ ?_
        rw [← Option.some.inj hk]
        cases d <;> rfl
      · split at hk
        · rename_i e
          subst e
          refine PySem.W.isinstance_tuple_data rd fun tk _ => fin tk _ ?_
          rw [← Option.some.inj hk]
          cases d <;> rfl
        · cases hk
def eIsi (E : Et) (T : String) : Et := fun ρ Q => E ρ fun x ρ1 => ∃ d k, ddOf ρ1 x = some d ∧ isT T d = some k ∧ Q (.dat (.d (.bool k))) ρ1
theorem de_isi {x y : Str} {p py : Pos} {T : String} (hx : x = ("isinstance" : Str)) (hg : Gl X x) (hm : X.mg "isinstance" = none) (hg2 : Gl X y) (hm2 : X.mg y = none) (hT : bootBuiltins y = some (.type T)) (h : DE X e E) (hn : y ≠ "__name__" := by decide) (hd : (y == ("__debug__" : Str)) = false := by decide)
    (na : starEach [e, .Name y py] X.env = (false, eval e X.env) :: starEach [.Name y py] X.env := by rfl) (nb : starEach [.Name y py] X.env = (false, eval (.Name y py) X.env) :: starEach [] X.env := by rfl) (hpl : (backTo pos (starEach [.Name y py] X.env)).any (·.1) = false := by rfl) :
    DE X (.Call (.Name x p) [e, .Name y py] [] pos) (eIsi E T) := by
  subst hx
  refine PE.imp (pe_callB call_isD hg hm (by decide +kernel) (pa_cons h (pa_cons (pe_bltn (v := .ty T) hg2 hm2 hT rfl hn hd) pa_nil nb) na) (by decide) (by decide) na hpl) fun σ H Q ⟨ρ, R, rep, hE, q⟩ => ?_
  refine ⟨ρ, _, rep, hE, fun z H2 ⟨x, ρ2, ⟨d, k, hd, hk, hR⟩, le, rep2, hx⟩ => ⟨z, d, T, k, rfl, dd_dp rep2 hx hd, hk, q _ _ ⟨_, ρ2, hR, le, rep2, Dv.bl k⟩⟩⟩
end
end DL
end DLf
section DLg
set_option Elab.async false
set_option linter.all false
set_option maxRecDepth 100000
set_option maxHeartbeats 1000000
/-! DLg: methods of own lists -/
namespace DL
open PySem PySem.Spec PyProof.Rows L2

section
variable {X : Cx} {a b c e o : Expr} {es : List Expr} {Ea Eb Ec E : Et} {pos : Pos}
variable {P : Program} {w : World} {H H' H1 Hs : Hp} {σ : L2.St} {ρ ρ' ρ1 : Sv}
def ownL (ρ : Sv) : Dx → Option (Nat × List PyData)
  | .own i => match ρ[i]? with
    | some (some (.lst l)) => some (i, l)
    | _ => none
  | _ => none
theorem ownL_some {x : Dx} {i : Nat} {l : List PyData} (h : ownL ρ x = some (i, l)) : x = .own i ∧ ρ[i]? = some (some (.lst l)) := by
  unfold ownL at h
  split at h
  · split at h
    · rename_i e
      cases h
      exact ⟨rfl, e⟩
    · cases h
  · cases h
/-- an own list's method: C of the slot, its items behind the arguments -/
def eMeth (E : Et) (A : At) (C : Nat → List PyData → List Dx → Et) : Et := fun ρ Q => E ρ fun x ρ1 => ∃ i l, ownL ρ1 x = some (i, l) ∧ A ρ1 fun xs ρ2 => ∃ l2, lsAt ρ2 i = some (.list l2) ∧ C i l2 xs ρ2 Q
def eMeth0 (E : Et) (C : Nat → List PyData → List Dx → Et) : Et := fun ρ Q => E ρ fun x ρ1 => ∃ i l, ownL ρ1 x = some (i, l) ∧ C i l [] ρ1 Q
/-- by values: the list stands at a -/
def MeD (X : Cx) (r : V → List V → Hp → VK → Prop) (C : Nat → List PyData → List Dx → Et) : Prop :=
  ∀ (σ : L2.St) (H Hs : Hp) (ρ : Sv) (i : Nat) (a : Addr) (vl : List V) (l : List PyData) (vs : List V) (xs : List Dx) (R : Dx → Sv → Prop) (Q : VK), Rep X.prog X.w H σ ρ → (∀ b, H b = none → Hs b = none) →
    ρ[i]? = some (some (.lst l)) → σ[i]? = some (some (.ref a)) → H a = some (.lst vl) → DvAll H vl l → XvAll X.prog X.w Hs H σ ρ vs xs → C i l xs ρ R → (∀ z H3, Dl X.prog X.w σ ρ Hs H R z H3 → Q z H3) → r (.ref a) vs H Q
theorem dl_put {R : Dx → Sv → Prop} {i : Nat} {a : Addr} {l l' : List PyData} {vl vl' : List V} {v : V} {x : Dx} (rep : Rep P w H σ ρ) (hi : ρ[i]? = some (some (.lst l))) (hs : σ[i]? = some (some (.ref a))) (ha : H a = some (.lst vl))
    (hR : R x (ρ.set i (some (.lst l')))) (hd : DvAll H vl' l') (hx : ∀ ρ' H', Kp H H' → Xv P w Hs H' σ ρ' v x) : Dl P w σ ρ Hs H R v (upd H a (.lst vl')) := by
  have hu : (∃ xs, H a = some (.lst xs)) ∨ ∃ φ, H a = some (.ext φ) := .inl ⟨_, ha⟩
  exact ⟨x, _, hR, Le.put hi rfl rfl hs (by rw [ha]; simp), rep.put hi rfl rfl hs hu ⟨vl', upd_same, hd.keep (kp_put hu)⟩, hx _ _ (kp_put hu)⟩
theorem xv_d {d : PyData} {v : V} (h : Dv H v d) : ∀ (ρ' : Sv) (H' : Hp), Kp H H' → Xv P w Hs H' σ ρ' v (.dat (.d d)) := fun _ _ k => h.keep k
theorem de_meth {id : String} {name : Str} {apos : Pos} {r : V → List V → Hp → VK → Prop} {C : Nat → List PyData → List Dx → Et} {A : At} (hC : MeD X r C) (slot : Slot "list" name id) (hty : typeOf (.builtin id) = pure (.type "method_descriptor")) (hm : MtR X id r) (ho : DE X o E) (ha : DA X (e :: es) A)
    (hbase : attributeBase o name X.env (eval o X.env) = eval o X.env := by rfl)
    (hfew : ((backTo pos (starEach (e :: es) X.env)).all (fun x => !x.1) && (backToKw pos (keywordEach [] X.env)).all (fun x => x.1.isSome)
      && decide ((e :: es).length + ([] : List Keyword).length + (if ([] : List Keyword).isEmpty then 0 else 1) < 30)) = true := by rfl)
    (hline : (apos.endLine == pos.line) = true := by rfl) (hs : starEach (e :: es) X.env = (false, eval e X.env) :: starEach es X.env := by rfl) (hplain : (backTo pos (starEach es X.env)).any (·.1) = false := by rfl) :
    DE X (.Call (.Attribute o name apos) (e :: es) [] pos) (eMeth E A C) := by
  refine PE.imp (pe_bm PySem.F.plainAttrs_list slot hty hm ho ha hbase hfew hline hs hplain) fun σ H Q ⟨ρ, R, rep, hE, q⟩ => ?_
  refine ⟨ρ, _, rep, hE, fun z H1 ⟨x, ρ1, ⟨i, l, hi, hA⟩, le1, rep1, x1⟩ => ?_⟩
  obtain ⟨rfl, hi'⟩ := ownL_some hi
  clear hi
  have hi := hi'
  obtain ⟨a, hsa, vl, hva, hdl⟩ := rep1.own i _ hi rfl
  have hz : σ[i]? = some (some z) := x1
  rw [hsa] at hz
  cases hz
  refine ⟨.inl ⟨rfl, vl, .inl (.inl hva)⟩, ρ1, _, rep1, hA, fun vs H2 xs ρ2 ⟨l2, h2, hR⟩ le2 rep2 hx => ?_⟩
  obtain ⟨l3, e3, hi2⟩ := lsAt_some h2
  cases e3
  obtain ⟨a2, hsa2, vl2, hva2, hdl2⟩ := rep2.own i _ hi2 rfl
  rw [hsa] at hsa2
  cases hsa2
  exact hC σ H2 H ρ2 i a vl2 l2 vs xs R Q rep2 (le1.trans le2).trk hi2 hsa hva2 hdl2 (hx.early le1.trk) hR fun z H3 ⟨x3, ρ3, hR3, le3, rep3, hx3⟩ => q z H3 ⟨x3, ρ3, hR3, (le1.trans le2).trans le3, rep3, hx3⟩
theorem de_meth0 {id : String} {name : Str} {apos : Pos} {r : V → List V → Hp → VK → Prop} {C : Nat → List PyData → List Dx → Et} (hC : MeD X r C) (slot : Slot "list" name id) (hty : typeOf (.builtin id) = pure (.type "method_descriptor")) (hm : MtR X id r) (ho : DE X o E)
    (hbase : attributeBase o name X.env (eval o X.env) = eval o X.env := by rfl) (hline : (apos.endLine == pos.line) = true := by rfl) :
    DE X (.Call (.Attribute o name apos) [] [] pos) (eMeth0 E C) := by
  refine PE.imp (pe_bm0 PySem.F.plainAttrs_list slot hty hm ho hbase hline) fun σ H Q ⟨ρ, R, rep, hE, q⟩ => ?_
  refine ⟨ρ, _, rep, hE, fun z H1 ⟨x, ρ1, ⟨i, l, hi, hR⟩, le1, rep1, x1⟩ => ?_⟩
  obtain ⟨rfl, hi'⟩ := ownL_some hi
  clear hi
  have hi := hi'
  obtain ⟨a, hsa, vl, hva, hdl⟩ := rep1.own i _ hi rfl
  have hz : σ[i]? = some (some z) := x1
  rw [hsa] at hz
  cases hz
  exact ⟨.inl ⟨rfl, vl, .inl (.inl hva)⟩, hC σ H1 H ρ1 i a vl l [] [] R Q rep1 le1.trk hi hsa hva hdl .nil hR fun z H3 ⟨x3, ρ3, hR3, le3, rep3, hx3⟩ => q z H3 ⟨x3, ρ3, hR3, le1.trans le3, rep3, hx3⟩⟩
/-! ### append, extend, pop, pop(i), insert -/
def mAppend : Nat → List PyData → List Dx → Et := fun i l xs ρ Q => ∃ d, dats xs = some [d] ∧ l.length < sizeLine ∧ Q (.dat (.d .none)) (ρ.set i (some (.lst (l ++ [d]))))
theorem me_append : MeD X rAppend mAppend := by
  intro σ H Hs ρ i a vl l vs xs R Q rep hs hi hsa ha hd hx ⟨d, e, hz, hR⟩ q
  have hv := (dats_all e).dv hx
  cases hv with
  | cons hv t =>
    cases t
    exact ⟨a, vl, _, rfl, rfl, ha, by rw [hd.length]; exact hz, q _ _ (dl_put rep hi hsa ha hR (hd.app (.cons hv .nil)) (xv_d .non))⟩
theorem de_append {apos : Pos} {A : At} {name : Str} (hn : name = "append") (ho : DE X o E) (ha : DA X [e] A)
    (hbase : attributeBase o name X.env (eval o X.env) = eval o X.env := by rfl)
    (hfew : ((backTo pos (starEach [e] X.env)).all (fun x => !x.1) && (backToKw pos (keywordEach [] X.env)).all (fun x => x.1.isSome)
      && decide ([e].length + ([] : List Keyword).length + (if ([] : List Keyword).isEmpty then 0 else 1) < 30)) = true := by rfl)
    (hline : (apos.endLine == pos.line) = true := by rfl) (hs : starEach [e] X.env = (false, eval e X.env) :: starEach [] X.env := by rfl) : DE X (.Call (.Attribute o name apos) [e] [] pos) (eMeth E A mAppend) := by
  subst hn
  exact de_meth me_append PySem.F.slot_list_append PySem.F.type_list_append mt_append ho ha hbase hfew hline hs rfl
def mExtend : Nat → List PyData → List Dx → Et := fun i l xs ρ Q => ∃ m, xs = [.new (.lst m)] ∧ l.length + m.length ≤ sizeLine ∧ Q (.dat (.d .none)) (ρ.set i (some (.lst (l ++ m))))
theorem me_extend : MeD X rExtend mExtend := by
  intro σ H Hs ρ i a vl l vs xs R Q rep hs hi hsa ha hd hx ⟨m, e, hz, hR⟩ q
  subst e
  obtain ⟨v, rfl, hv⟩ := hx.one
  obtain ⟨b, rfl, _, ⟨ys, hb, hm⟩, _⟩ := hv
  exact ⟨a, b, vl, ys, rfl, rfl, ha, hb, by rw [hd.length, hm.length]; exact hz, q _ _ (dl_put rep hi hsa ha hR (hd.app hm) (xv_d .non))⟩
theorem de_extend {apos : Pos} {A : At} {name : Str} (hn : name = "extend") (ho : DE X o E) (ha : DA X [e] A)
    (hbase : attributeBase o name X.env (eval o X.env) = eval o X.env := by rfl)
    (hfew : ((backTo pos (starEach [e] X.env)).all (fun x => !x.1) && (backToKw pos (keywordEach [] X.env)).all (fun x => x.1.isSome)
      && decide ([e].length + ([] : List Keyword).length + (if ([] : List Keyword).isEmpty then 0 else 1) < 30)) = true := by rfl)
    (hline : (apos.endLine == pos.line) = true := by rfl) (hs : starEach [e] X.env = (false, eval e X.env) :: starEach [] X.env := by rfl) : DE X (.Call (.Attribute o name apos) [e] [] pos) (eMeth E A mExtend) := by
  subst hn
  exact de_meth me_extend PySem.F.slot_list_extend PySem.F.type_list_extend mt_extend ho ha hbase hfew hline hs rfl
def mPop : Nat → List PyData → List Dx → Et := fun i l xs ρ Q => xs = [] ∧ ∃ d, l[l.length - 1]? = some d ∧ Q (.dat (.d d)) (ρ.set i (some (.lst l.dropLast)))
theorem me_pop : MeD X rPop mPop := by
  intro σ H Hs ρ i a vl l vs xs R Q rep hs hi hsa ha hd hx ⟨hxs, d, e, hR⟩ q
  subst hxs
  cases hx
  obtain ⟨v, h1, h2⟩ := hd.get e
  rw [← hd.length] at h1
  exact ⟨a, vl, v, rfl, rfl, ha, h1, q _ _ (dl_put rep hi hsa ha hR hd.dropL (xv_d h2))⟩
theorem de_pop {apos : Pos} {name : Str} (hn : name = "pop") (ho : DE X o E) (hbase : attributeBase o name X.env (eval o X.env) = eval o X.env := by rfl) (hline : (apos.endLine == pos.line) = true := by rfl) :
    DE X (.Call (.Attribute o name apos) [] [] pos) (eMeth0 E mPop) := by
  subst hn
  exact de_meth0 me_pop PySem.F.slot_list_pop PySem.F.type_list_pop mt_pop ho hbase hline
def mPopAt : Nat → List PyData → List Dx → Et := fun i l xs ρ Q => ∃ (j : Nat) (d : PyData), dats xs = some [.int j] ∧ j < 1000 ∧ l[j]? = some d ∧ Q (.dat (.d d)) (ρ.set i (some (.lst (l.eraseIdx j))))
theorem me_popAt : MeD X rPopAt mPopAt := by
  intro σ H Hs ρ i a vl l vs xs R Q rep hs hi hsa ha hd hx ⟨j, d, e, hj, hat, hR⟩ q
  have hv := (dats_all e).dv hx
  cases hv with
  | cons hv t =>
    cases t
    cases hv
    obtain ⟨v, h1, h2⟩ := hd.get hat
    have hlt : j < vl.length := (List.getElem?_eq_some_iff.mp h1).1
    refine ⟨a, vl, j, j, v, rfl, rfl, ha, by omega, by omega, ?_, h1, q _ _ (dl_put rep hi hsa ha hR (hd.erase j) (xv_d h2))⟩
    have ix : ixN vl.length (j : Int) = some j := by
      unfold ixN
      rw [if_pos (by omega), if_pos (by omega), Int.toNat_natCast]
    exact (ixN_seq ix).1
theorem de_popAt {apos : Pos} {A : At} {name : Str} (hn : name = "pop") (ho : DE X o E) (ha : DA X [e] A)
    (hbase : attributeBase o name X.env (eval o X.env) = eval o X.env := by rfl)
    (hfew : ((backTo pos (starEach [e] X.env)).all (fun x => !x.1) && (backToKw pos (keywordEach [] X.env)).all (fun x => x.1.isSome)
      && decide ([e].length + ([] : List Keyword).length + (if ([] : List Keyword).isEmpty then 0 else 1) < 30)) = true := by rfl)
    (hline : (apos.endLine == pos.line) = true := by rfl) (hs : starEach [e] X.env = (false, eval e X.env) :: starEach [] X.env := by rfl) : DE X (.Call (.Attribute o name apos) [e] [] pos) (eMeth E A mPopAt) := by
  subst hn
  exact de_meth me_popAt PySem.F.slot_list_pop PySem.F.type_list_pop mt_popAt ho ha hbase hfew hline hs rfl
def mInsert : Nat → List PyData → List Dx → Et := fun i l xs ρ Q => ∃ (j : Nat) (d : PyData), dats xs = some [.int j, d] ∧ j < 1000 ∧ l.length < sizeLine ∧ Q (.dat (.d .none)) (ρ.set i (some (.lst (l.take j ++ [d] ++ l.drop j))))
theorem me_insert : MeD X (fun x vs H Q => ∃ (l : Addr) (xs : List V) (i : Int) (y : V), x = .ref l ∧ vs = [.int i, y] ∧ H l = some (.lst xs) ∧ xs.length < sizeLine ∧ 0 ≤ i ∧ i < 2 ^ 63 ∧
    Q .non (upd H l (.lst (xs.take i.toNat ++ [y] ++ xs.drop i.toNat)))) mInsert := by
  intro σ H Hs ρ i a vl l vs xs R Q rep hs hi hsa ha hd hx ⟨j, d, e, hj, hz, hR⟩ q
  have hv := (dats_all e).dv hx
  cases hv with
  | cons hv t =>
    cases hv
    cases t with
    | cons hv t =>
      cases t
      refine ⟨a, vl, j, _, rfl, rfl, ha, by rw [hd.length]; exact hz, by omega, by omega, q _ _ ?_⟩
      rw [Int.toNat_natCast]
      exact dl_put rep hi hsa ha hR (((hd.tk j).app (.cons hv .nil)).app (hd.dr j)) (xv_d .non)
theorem de_insert {apos : Pos} {A : At} {e2 : Expr} {name : Str} (hn : name = "insert") (ho : DE X o E) (ha : DA X [e, e2] A)
    (hbase : attributeBase o name X.env (eval o X.env) = eval o X.env := by rfl)
    (hfew : ((backTo pos (starEach [e, e2] X.env)).all (fun x => !x.1) && (backToKw pos (keywordEach [] X.env)).all (fun x => x.1.isSome)
      && decide ([e, e2].length + ([] : List Keyword).length + (if ([] : List Keyword).isEmpty then 0 else 1) < 30)) = true := by rfl)
    (hline : (apos.endLine == pos.line) = true := by rfl) (hs : starEach [e, e2] X.env = (false, eval e X.env) :: starEach [e2] X.env := by rfl) (hplain : (backTo pos (starEach [e2] X.env)).any (·.1) = false := by rfl) : DE X (.Call (.Attribute o name apos) [e, e2] [] pos) (eMeth E A mInsert) := by
  subst hn
  exact de_meth me_insert PySem.F.slot_list_insert PySem.F.type_list_insert mt_insert ho ha hbase hfew hline hs hplain
end
end DL
end DLg
section DLh
set_option Elab.async false
set_option linter.all false
set_option maxRecDepth 100000
set_option maxHeartbeats 1000000
/-! DLh: defs (with the guards of the call known), calls of defs by data -/
namespace DL
open PySem PySem.Spec PyProof.Rows L2

/-- room, and nothing's repr is under way -/
structure RoomG (k : Nat) (A : Around) : Prop where
  r : Room k A
  g : A.guards = some []
theorem RoomG.mono {j k : Nat} {A : Around} (h : RoomG k A) (l : j ≤ k) : RoomG j A := ⟨h.r.mono l, h.g⟩
theorem RoomG.deeper {k : Nat} {A : Around} (h : RoomG (k + 1) A) (env : Env) : RoomG k (A.deeper env) := ⟨h.r.deeper env, h.g⟩
theorem RoomG.hu {k : Nat} {A : Around} (h : RoomG k A) : A.units + 64 < cLine := h.r.units
/-- as the layer's FnOk, where the guards are known -/
structure FnG (P : Program) (w : World) (K : PySem.W.Frag) (mg : Str → Option Value) (base : Heap) (CX : CXT) (k : Nat) (f : Addr) (fd : FuncData) (ps : List Str) (sp : Sp) : Prop where
  len : ∀ vs H Q E, sp vs H Q E → vs.length = ps.length
  run : ∀ (A : Around) (outer : List Env) (s : Shared) (H : Hp) (args : Args) (us : List Value) (vs : List V) (Q : VK) (E : XK), RoomG k A → Env0 P w K mg base A outer s H →
    BindsTo s fd args (ps.zip us) → Vals vs us → sp vs H Q E → codeAny (model P w) A (.call (.ref f) args) (CR CX outer P w H s Q E) s
theorem FnG.mono {P : Program} {w : World} {K : PySem.W.Frag} {mg : Str → Option Value} {base : Heap} {CX : CXT} {j k : Nat} {f : Addr} {fd : FuncData} {ps : List Str} {sp : Sp} (F : FnG P w K mg base CX j f fd ps sp) (h : j ≤ k) :
    FnG P w K mg base CX k f fd ps sp :=
  ⟨F.len, fun A outer s H args us vs Q E hr => F.run A outer s H args us vs Q E (hr.mono h)⟩
section
variable {P : Program} {w : World} {K : PySem.W.Frag} {mg : Str → Option Value} {base : Heap}
/-- a def of the text by its body -/
theorem fnG_of {CX : CXT} {k : Nat} {x qual : Str} {st : Stmt} {f : Addr} {fd : FuncData} {N ps : List Str} {sp : Sp} (F : Fun K x qual st f fd) (S : FnScope N ps (defScope st)) (len : ∀ vs H Q E, sp vs H Q E → vs.length = ps.length)
    (hbody : ∀ (cdv : Value) (A : Around) (outer : List Env) (s : Shared) (H : Hp) (vs : List V) (Q : VK) (E : XK), RoomG k (A.deeper (envOfC qual (defScope st) s.heap.objs.size f cdv)) → sp vs H Q E →
      ∃ t, PSs (cxOf CX P w K mg base N qual (defScope st) f cdv A outer s H E) (defBody st) t ∧ t { nx := fun _ H' => Q .non H', rt := Q } (start N vs) H) :
    FnG P w K mg base CX (k + 1) f fd ps sp := by
  obtain ⟨oc, od, kV, doc, pm, an, cdv, ct, osl, rfl, lk, hcd⟩ := F.ex
  refine ⟨len, fun A outer s H args us vs Q E hr e0 hb r hsp => ?_⟩
  have nl := len _ _ _ _ hsp
  have inK : K.In s.heap := e0.mod.kin.keeps fun b o e => (e0.bs b o e).1
  have lim : s.heap.NoLimit := e0.mod.nolimit.keeps fun b o e => (e0.bs b o e).1
  have places : ∀ y ∈ ps.zip us, (defScope st).names.lookup y.1 = some .local ∨ ((defScope st).names.lookup y.1 = some .cell ∧ ((cellsFrom (s.heap.objs.size + 1) (defScope st).names []).lookup y.1).isSome = true) := by
    rintro ⟨n, v⟩ hy
    exact (S.par n (List.of_mem_zip hy).1).imp id fun q => ⟨q, PySem.W.cellsFrom_some _ _ _ (.inl q)⟩
  refine codeAny_call_function hr.r.depth (inK _ _ lk) rfl S.co S.gen rfl (PySem.W.codeRec_of inK hcd) (hb _ _ _ _ ?_)
  refine wpAny_newFunctionEnv_cells S.kind places fun env he s1 frame => ?_
  subst he
  refine ⟨lim.keeps frame.toInCall.keep, codeAny_func ?_⟩
  obtain ⟨t, ht, hq⟩ := hbody cdv A outer s H vs Q E (hr.deeper _) hsp
  have I := inv_start (CX := CX) (E := E) S hr.r.hd e0 nl r frame
  refine wpAny_mono (ht.run [] s1 (start N vs) H _ I hq) (fun fl s' hs => ?_) fun e s' hs => hs
  cases fl with
  | ret u => exact let ⟨v, σ', H', J, rv, q⟩ := hs; ⟨v, H', J.os, J.bare, J.base, J.hok, rv, q⟩
  | next => exact let ⟨σ', H', J, q⟩ := hs; ⟨V.non, H', J.os, J.bare, J.base, J.hok, rfl, q⟩
  | brk => exact let ⟨_, _, _, q⟩ := hs; False.elim q
  | cont => exact let ⟨_, _, _, q⟩ := hs; False.elim q
end
section
variable {X : Cx} {CX : CXT} {k : Nat} {f : Addr} {fd : FuncData} {ps : List Str} {sp : Sp} {E : XK} {x : Str} {p pos : Pos} {e : Expr} {es : List Expr} {t : TA}
theorem runG {pins : List (Addr × Obj)} {σ : L2.St} {H : Hp} {s : Shared} {Q : VK} {us : List Value} {vs : List V} (F : FnG X.prog X.w X.K X.mg X.base CX k f fd ps sp) (hr : RoomG k X.A) (hb : Binds X.K fd ps []) (hx : Passes CX X E)
    (I : Inv X pins σ H s) (r : Vals vs us) (h : sp vs H Q E) : wpAny (model X.prog X.w) X.A (call (.ref f) us) (EP X pins σ Q) X.xe s := by
  have hl : (us ++ []).length = ps.length := by rw [List.append_nil, ← r.length]; exact F.len _ _ _ _ h
  have hbb := hb s us I.kIn hl
  rw [List.append_nil] at hbb
  refine wpAny_call (codeAny_mono (F.run X.A X.stack s H ⟨us, []⟩ us vs Q E hr I.env0 hbb r h) fun res s' hq => ?_)
  match res, hq with
  | .error e, hq => exact hx pins σ H s e s' I hq
  | .ok (.ret u), hq => exact I.after hq
  | .ok .next, hq => exact False.elim hq
  | .ok .brk, hq => exact False.elim hq
  | .ok .cont, hq => exact False.elim hq
theorem pe_callG (F : FnG X.prog X.w X.K X.mg X.base CX k f fd ps sp) (hr : RoomG k X.A) (hg : Gl X x) (hm : X.mg x = some (.ref f)) (hk : PySem.W.keepIn X.K (.ref f) = true) (hb : Binds X.K fd ps []) (hx : Passes CX X E)
    (ha : PA X (e :: es) t) (hdb : (x == ("__debug__" : Str)) = false := by decide) (he : starEach (e :: es) X.env = (false, eval e X.env) :: starEach es X.env := by rfl) (hpl : (backTo pos (starEach es X.env)).any (·.1) = false := by rfl) :
    PE X (.Call (.Name x p) (e :: es) [] pos) (fun σ H Q => t σ H fun vs H1 => sp vs H1 Q E) := by
  refine ⟨fun pins s σ H Q I h => wpAny_Call_Name_kw (ld_glob I hg hm ?_ hdb)⟩
  exact PySem.W.callWith_K (h₀ := X.base) I.ok.mod.kin hk (thn (ha.run pos pins s σ H _ I h) fun us s1 ⟨vs, H1, I1, r, q⟩ => ⟨I1.kIn, runG F hr hb hx I1 r q⟩) he hpl
end

/-! ### promises by data -/
/-- what a def does with data -/
abbrev Pr := List Dt → (Dt → Prop) → Prop
inductive DtAll (P : Program) (w : World) (H : Hp) : List V → List Dt → Prop
  | nil : DtAll P w H [] []
  | cons {v : V} {vs : List V} {d : Dt} {ds : List Dt} : Dtv P w H v d → DtAll P w H vs ds → DtAll P w H (v :: vs) (d :: ds)
theorem DtAll.length {P : Program} {w : World} {H : Hp} : ∀ {vs : List V} {ds : List Dt}, DtAll P w H vs ds → vs.length = ds.length
  | _, _, .nil => rfl
  | _, _, .cons _ t => by rw [List.length_cons, List.length_cons, DtAll.length t]
/-- nothing that was tracked changes; the answer is data -/
def spD (P : Program) (w : World) (n : Nat) (F : Pr) : Sp := fun vs H Q _ => ∃ ds R, DtAll P w H vs ds ∧ ds.length = n ∧ F ds R ∧ ∀ d v H', R d → Same H H' → (∀ b, H' b = none → H b = none) → Dtv P w H' v d → Q v H'
/-- the def named x keeps the promise F -/
structure Cal (P : Program) (w : World) (K : PySem.W.Frag) (mg : Str → Option Value) (base : Heap) (k : Nat) (x : Str) (n : Nat) (F : Pr) : Prop where
  len : ∀ ds R, F ds R → ds.length = n
  ex : ∃ (f : Addr) (fd : FuncData) (ps : List Str), mg x = some (.ref f) ∧ PySem.W.keepIn K (.ref f) = true ∧ Binds K fd ps [] ∧ FnG P w K mg base CX0 k f fd ps (spD P w n F)
theorem Cal.mono {P : Program} {w : World} {K : PySem.W.Frag} {mg : Str → Option Value} {base : Heap} {j k : Nat} {x : Str} {n : Nat} {F : Pr} (c : Cal P w K mg base j x n F) (h : j ≤ k) : Cal P w K mg base k x n F :=
  let ⟨f, fd, ps, h1, h2, h3, h4⟩ := c.ex; ⟨c.len, f, fd, ps, h1, h2, h3, h4.mono h⟩
/-- f(..), every argument data -/
def dts : List Dx → Option (List Dt)
  | [] => some []
  | .dat d :: xs => (dts xs).map (d :: ·)
  | _ => none
theorem dts_all {P : Program} {w : World} {Hs H : Hp} {σ : L2.St} {ρ : Sv} : ∀ {vs : List V} {xs : List Dx} {ds : List Dt}, XvAll P w Hs H σ ρ vs xs → dts xs = some ds → DtAll P w H vs ds
  | _, _, _, .nil, h => by cases h; exact .nil
  | _, _, _, .cons (x := .dat d) a t _, h => by
    rw [dts] at h
    obtain ⟨r, h1, rfl⟩ := Option.map_eq_some_iff.mp h
    exact .cons a (dts_all t h1)
  | _, _, _, .cons (x := .own _) a t _, h => by simp [dts] at h
  | _, _, _, .cons (x := .new _) a t _, h => by simp [dts] at h
def eFn (A : At) (F : Pr) : Et := fun ρ Q => A ρ fun xs ρ1 => ∃ ds, dts xs = some ds ∧ F ds fun d => Q (.dat d) ρ1
section
variable {X : Cx} {k j n : Nat} {x : Str} {p pos : Pos} {e : Expr} {es : List Expr} {A : At} {F : Pr}
theorem Rep.same {P : Program} {w : World} {H H' : Hp} {σ : L2.St} {ρ : Sv} (R : Rep P w H σ ρ) (h : Same H H') : Rep P w H' σ ρ :=
  R.of ⟨fun b xs e => h b _ e, fun b o u e => h b _ e⟩ fun b m => by
    cases q : H b with
    | none => exact absurd q (R.tracked m)
    | some o => exact h b o q
theorem de_fn (C : Cal X.prog X.w X.K X.mg X.base k x n F) (hr : RoomG j X.A) (hkj : k ≤ j) (hg : Gl X x) (ha : DA X (e :: es) A) (hdb : (x == ("__debug__" : Str)) = false := by decide)
    (he : starEach (e :: es) X.env = (false, eval e X.env) :: starEach es X.env := by rfl) (hpl : (backTo pos (starEach es X.env)).any (·.1) = false := by rfl) : DE X (.Call (.Name x p) (e :: es) [] pos) (eFn A F) := by
  obtain ⟨f, fd, ps, h1, h2, h3, h4⟩ := C.ex
  refine PE.imp (pe_callG (h4.mono hkj) hr hg h1 h2 h3 pass0 ha hdb he hpl) fun σ H Q ⟨ρ, R, rep, hA, q⟩ => ?_
  refine ⟨ρ, _, rep, hA, fun vs H2 xs ρ2 ⟨ds, hd, hF⟩ le rep2 hx => ?_⟩
  have hv := dts_all hx hd
  refine ⟨ds, _, hv, C.len _ _ hF, hF, fun d v H' hR hs ht hd => q v H' ⟨.dat d, ρ2, hR, ?_, rep2.same hs, hd⟩⟩
  exact le.trans ⟨fun b o e _ => hs b o e, ht, fun b m => .inl m⟩
end

/-! ### defs that turn a list of their caller's -/
abbrev PrB := List PyData → List Dt → (Dt → List PyData → Prop) → Prop
def spB (P : Program) (w : World) (n : Nat) (F : PrB) : Sp := fun vs H Q _ => ∃ (a : Addr) (vl : List V) (bag : List PyData) (us : List V) (ds : List Dt) (R : Dt → List PyData → Prop),
  vs = .ref a :: us ∧ H a = some (.lst vl) ∧ DvAll H vl bag ∧ DtAll P w H us ds ∧ ds.length + 1 = n ∧ F bag ds R ∧
    ∀ d bag' v H' vl', R d bag' → (∀ b o, b ≠ a → H b = some o → H' b = some o) → (∀ b, H' b = none → H b = none) → H' a = some (.lst vl') → DvAll H' vl' bag' → Dtv P w H' v d → Q v H'
structure CalB (P : Program) (w : World) (K : PySem.W.Frag) (mg : Str → Option Value) (base : Heap) (k : Nat) (x : Str) (n : Nat) (F : PrB) : Prop where
  len : ∀ bag ds R, F bag ds R → ds.length + 1 = n
  ex : ∃ (f : Addr) (fd : FuncData) (ps : List Str), mg x = some (.ref f) ∧ PySem.W.keepIn K (.ref f) = true ∧ Binds K fd ps [] ∧ FnG P w K mg base CX0 k f fd ps (spB P w n F)
theorem CalB.mono {P : Program} {w : World} {K : PySem.W.Frag} {mg : Str → Option Value} {base : Heap} {j k : Nat} {x : Str} {n : Nat} {F : PrB} (c : CalB P w K mg base j x n F) (h : j ≤ k) : CalB P w K mg base k x n F :=
  let ⟨f, fd, ps, h1, h2, h3, h4⟩ := c.ex; ⟨c.len, f, fd, ps, h1, h2, h3, h4.mono h⟩
def eFnB (A : At) (F : PrB) : Et := fun ρ Q => A ρ fun xs ρ1 => ∃ i ys l ds, xs = .own i :: ys ∧ lsAt ρ1 i = some (.list l) ∧ dts ys = some ds ∧ F l ds fun d l' => Q (.dat d) (ρ1.set i (some (.lst l')))
section
variable {X : Cx} {k j n : Nat} {x : Str} {p pos : Pos} {e : Expr} {es : List Expr} {A : At} {F : PrB}
theorem de_fnB (C : CalB X.prog X.w X.K X.mg X.base k x n F) (hr : RoomG j X.A) (hkj : k ≤ j) (hg : Gl X x) (ha : DA X (e :: es) A) (hdb : (x == ("__debug__" : Str)) = false := by decide)
    (he : starEach (e :: es) X.env = (false, eval e X.env) :: starEach es X.env := by rfl) (hpl : (backTo pos (starEach es X.env)).any (·.1) = false := by rfl) : DE X (.Call (.Name x p) (e :: es) [] pos) (eFnB A F) := by
  obtain ⟨f, fd, ps, h1, h2, h3, h4⟩ := C.ex
  refine PE.imp (pe_callG (h4.mono hkj) hr hg h1 h2 h3 pass0 ha hdb he hpl) fun σ H Q ⟨ρ, R, rep, hA, q⟩ => ?_
  refine ⟨ρ, _, rep, hA, fun vs H2 xs ρ2 ⟨i, ys, l, ds, ex, hl, hd, hF⟩ le rep2 hx => ?_⟩
  subst ex
  obtain ⟨l', el, hi⟩ := lsAt_some hl
  cases el
  obtain ⟨a, hsa, vl, hva, hdl⟩ := rep2.own i _ hi rfl
  cases hx with
  | cons hz hx _ =>
    rename_i z us _
    have hz : σ[i]? = some (some z) := hz
    rw [hsa] at hz
    cases hz
    refine ⟨a, vl, l, us, ds, _, rfl, hva, hdl, dts_all hx hd, C.len _ _ _ hF, hF, fun d bag' v H' vl' hR hs ht ha' hd' hdv => q v H' ⟨.dat d, _, hR, ?_, ?_, hdv⟩⟩
    · refine le.trans ⟨fun b o e n => hs b o (fun z => n ⟨i, _, hi, rfl, by rw [z]; exact hsa⟩) e, ht, fun b m => .inl ((ownA_put hi rfl rfl b).mp m)⟩
    · have k : Kp H2 H' := ⟨fun b xs e => hs b _ (fun z => by rw [z, hva] at e; cases e) e, fun b o u e => hs b _ (fun z => by rw [z, hva] at e; cases e) e⟩
      refine ⟨by rw [List.length_set]; exact rep2.len, fun j d h => ?_, fun j c h ho => ?_, fun j m c c' b g1 o1 g2 o2 s1 s2 => ?_⟩
      · rcases set_get h with ⟨rfl, e⟩ | ⟨hj, e⟩
        · cases e
        · obtain ⟨v, q1, q2⟩ := rep2.dat j d e
          exact ⟨v, q1, q2.keep k⟩
      · rcases set_get h with ⟨rfl, e⟩ | ⟨hj, e⟩
        · cases e
          exact ⟨a, hsa, vl', ha', hd'⟩
        · obtain ⟨b, q1, q2⟩ := rep2.own j c e ho
          refine ⟨b, q1, q2.keep k ?_⟩
          cases qb : H2 b with
          | none => exact absurd qb q2.some
          | some o =>
            refine hs b o (fun z => ?_) qb
            subst z
            exact hj (rep2.ne j i c _ b e ho hi rfl q1 hsa)
      · have back : ∀ {m : Nat} {u : Cell}, (ρ2.set i (some (.lst bag')))[m]? = some (some u) → u.own = true → ∃ u', ρ2[m]? = some (some u') ∧ u'.own = true := fun {m u} h hu => by
          rcases set_get h with ⟨rfl, _⟩ | ⟨_, e⟩
          · exact ⟨_, hi, rfl⟩
          · exact ⟨u, e, hu⟩
        obtain ⟨u1, b1, b1'⟩ := back g1 o1
        obtain ⟨u2, b2, b2'⟩ := back g2 o2
        exact rep2.ne j m u1 u2 b b1 b1' b2 b2' s1 s2
end
end DL
end DLh
section DLi
set_option Elab.async false
set_option linter.all false
set_option maxRecDepth 100000
set_option maxHeartbeats 1000000
/-! DLi: statements -/
namespace DL
open PySem PySem.Spec PyProof.Rows L2

structure DEnds where
  nx : Sv → Prop
  rt : Dt → Sv → Prop
  bk : Sv → Prop
  ct : Sv → Prop
abbrev Stt := Sv → DEnds → Prop
/-- from one state to a later one, slots too: slot 0 stays as it is -/
structure Lz (σ : L2.St) (ρ : Sv) (H : Hp) (σ' : L2.St) (ρ' : Sv) (H' : Hp) : Prop where
  le : Le (ownA σ ρ) H (ownA σ' ρ') H'
  z : σ'[0]? = σ[0]?
theorem Lz.refl (σ : L2.St) (ρ : Sv) (H : Hp) : Lz σ ρ H σ ρ H := ⟨Le.refl _ _, rfl⟩
theorem Lz.of {σ : L2.St} {ρ ρ' : Sv} {H H' : Hp} (l : Le (ownA σ ρ) H (ownA σ ρ') H') : Lz σ ρ H σ ρ' H' := ⟨l, rfl⟩
theorem Lz.trans {σ σ1 σ2 : L2.St} {ρ ρ1 ρ2 : Sv} {H H1 H2 : Hp} (a : Lz σ ρ H σ1 ρ1 H1) (b : Lz σ1 ρ1 H1 σ2 ρ2 H2) : Lz σ ρ H σ2 ρ2 H2 := ⟨a.le.trans b.le, b.z.trans a.z⟩
theorem set_z {σ : L2.St} {i : Nat} {v : Option V} (h : i ≠ 0) : (σ.set i v)[0]? = σ[0]? := List.getElem?_set_ne h
structure Tow (P : Program) (w : World) (σ : L2.St) (ρ : Sv) (H : Hp) (R : DEnds) (D : Ends) : Prop where
  nx : ∀ ρ' σ' H', R.nx ρ' → Lz σ ρ H σ' ρ' H' → Rep P w H' σ' ρ' → D.nx σ' H'
  rt : ∀ d v ρ' σ' H', R.rt d ρ' → Lz σ ρ H σ' ρ' H' → Rep P w H' σ' ρ' → Dtv P w H' v d → D.rt v H'
  bk : ∀ ρ' σ' H', R.bk ρ' → Lz σ ρ H σ' ρ' H' → Rep P w H' σ' ρ' → D.bk σ' H'
  ct : ∀ ρ' σ' H', R.ct ρ' → Lz σ ρ H σ' ρ' H' → Rep P w H' σ' ρ' → D.ct σ' H'
def rdS (P : Program) (w : World) (S : Stt) : TS := fun D σ H => ∃ ρ R, Rep P w H σ ρ ∧ S ρ R ∧ Tow P w σ ρ H R D
abbrev DS (X : Cx) (st : Stmt) (S : Stt) : Prop := PS X st (rdS X.prog X.w S)
abbrev DSs (X : Cx) (st : List Stmt) (S : Stt) : Prop := PSs X st (rdS X.prog X.w S)
section
variable {X : Cx} {st : Stmt} {sts rest : List Stmt} {S S1 S2 : Stt} {a b c e o : Expr} {E Ea Eb : Et} {T : Tt} {pos : Pos}
variable {P : Program} {w : World} {H H' H1 Hs : Hp} {σ σ' : L2.St} {ρ ρ' ρ1 : Sv}
theorem PS.imp {t t' : TS} (h : PS X st t) (k : ∀ D σ H, t' D σ H → t D σ H) : PS X st t' := ⟨fun pins s σ H D I q => h.run pins s σ H D I (k D σ H q)⟩
theorem PSs.imp {t t' : TS} (h : PSs X sts t) (k : ∀ D σ H, t' D σ H → t D σ H) : PSs X sts t' := ⟨fun pins s σ H D I q => h.run pins s σ H D I (k D σ H q)⟩
theorem Tow.later {R : DEnds} {D : Ends} (t : Tow P w σ ρ H R D) (L : Lz σ ρ H σ' ρ' H') : Tow P w σ' ρ' H' R D :=
  ⟨fun r s h q l => t.nx r s h q (L.trans l), fun d v r s h q l => t.rt d v r s h q (L.trans l), fun r s h q l => t.bk r s h q (L.trans l), fun r s h q l => t.ct r s h q (L.trans l)⟩
def sNil : Stt := fun ρ R => R.nx ρ
def sSeq (S1 S2 : Stt) : Stt := fun ρ R => S1 ρ ⟨fun ρ1 => S2 ρ1 R, R.rt, R.bk, R.ct⟩
theorem dss_nil : DSs X [] sNil := PSs.imp pss_nil fun D σ H ⟨ρ, R, rep, h, t⟩ => t.nx ρ σ H h (Lz.refl _ _ _) rep
theorem dss_cons (h1 : DS X st S1) (h2 : DSs X rest S2) : DSs X (st :: rest) (sSeq S1 S2) :=
  PSs.imp (pss_cons h1 h2) fun D σ H ⟨ρ, R, rep, h, t⟩ => ⟨ρ, _, rep, h, ⟨fun ρ' σ' H' q l rep' => ⟨ρ', R, rep', q, t.later l⟩, t.rt, t.bk, t.ct⟩⟩
theorem dss_one (h1 : DS X st S) : DSs X [st] S := pss_one h1
theorem ds_pass : DS X (.Pass pos) sNil := PS.imp ps_pass fun D σ H ⟨ρ, R, rep, h, t⟩ => t.nx ρ σ H h (Lz.refl _ _ _) rep
def sExpr (E : Et) : Stt := fun ρ R => E ρ fun _ ρ1 => R.nx ρ1
theorem ds_expr (h : DE X e E) (hs : swapsWith e none pos.line X.env = pure false := by rfl) : DS X (.Expr e pos) (sExpr E) :=
  PS.imp (ps_expr h hs) fun D σ H ⟨ρ, R, rep, h, t⟩ => ⟨ρ, _, rep, h, fun z H2 ⟨x, ρ2, q, le, rep2, hx⟩ => t.nx ρ2 σ H2 q (.of le) rep2⟩
def sSet (i : Nat) (E : Et) : Stt := fun ρ R => E ρ fun x ρ1 => ∃ c, asCell x = some c ∧ i < ρ1.length ∧ R.nx (ρ1.set i (some c))
theorem ds_set {i : Nat} {x : Str} {pos' : Pos} (hN : X.N.Nodup) (hi : X.N[i]? = some x) (hx : Loc X.env.scope x) (h : DE X e E) (hs : swapsWith e (some (.Name x pos')) pos.line X.env = pure false := by rfl)
    (hf : X.fn x = true ∨ X.env.scope.names.lookup x = some .local := by first | exact .inl rfl | exact .inr rfl | assumption) (h0 : i ≠ 0 := by decide) : DS X (.Assign [.Name x pos'] e pos) (sSet i E) :=
  PS.imp (ps_set hN hi hx h hs hf) fun D σ H ⟨ρ, R, rep, h, t⟩ => ⟨ρ, _, rep, h, fun z H2 ⟨x, ρ2, ⟨c, hc, hl, q⟩, le, rep2, hx⟩ => t.nx _ _ H2 q ⟨Le.store rep2 le hx hc, set_z h0⟩ (rep2.store hl hx hc)⟩
def sIf (T : Tt) (S1 S2 : Stt) : Stt := fun ρ R => T ρ fun b ρ1 => if b = true then S1 ρ1 R else S2 ρ1 R
theorem ds_if (hc : DT X c T) (ha : DSs X sts S1) (hb : DSs X rest S2) : DS X (.If c sts rest pos) (sIf T S1 S2) := by
  refine PS.imp (ps_if hc ha hb) fun D σ H ⟨ρ, R, rep, h, t⟩ => ⟨ρ, _, rep, h, fun bb ρ2 H2 q le rep2 => ?_⟩
  cases bb with
  | true => exact iteT ⟨ρ2, R, rep2, by rw [if_pos rfl] at q; exact q, t.later (.of le)⟩
  | false => exact iteF ⟨ρ2, R, rep2, by rw [if_neg Bool.false_ne_true] at q; exact q, t.later (.of le)⟩

/-! ### return: a new or an own thing is locked -/
def retAt (ρ : Sv) (i : Nat) : Option (Dt × Sv) := match ρ[i]? with
  | some (some (.lst l)) => some (.d (.list l), ρ.set i none)
  | some (some (.dct l)) => some (.k l, ρ.set i none)
  | _ => none
def retOf (ρ : Sv) : Dx → Option (Dt × Sv)
  | .dat d => some (d, ρ)
  | .new (.lst l) => some (.d (.list l), ρ)
  | .new (.dct kvs) => some (.k kvs, ρ)
  | .own i => retAt ρ i
  | _ => none
theorem ownA_del {i : Nat} (b : Addr) (m : ownA σ (ρ.set i none) b) : ownA σ ρ b := by
  obtain ⟨j, c, h1, h2, h3⟩ := m
  rcases set_get h1 with ⟨_, e⟩ | ⟨hj, e⟩
  · cases e
  · exact ⟨j, c, e, h2, h3⟩
theorem Rep.del (R : Rep P w H σ ρ) (i : Nat) : Rep P w H σ (ρ.set i none) := by
  have q : ∀ {j : Nat} {c : Cell}, (ρ.set i none)[j]? = some (some c) → ρ[j]? = some (some c) := fun {j c} h => by
    rcases set_get h with ⟨_, e⟩ | ⟨_, e⟩
    · cases e
    · exact e
  exact ⟨by rw [List.length_set]; exact R.len, fun j d h => R.dat j d (q h), fun j c h => R.own j c (q h), fun j k c c' a h1 o1 h2 o2 => R.ne j k c c' a (q h1) o1 (q h2) o2⟩
theorem lock_own {pins : List (Addr × Obj)} {s : Shared} (I : Inv X pins σ H s) (R : Rep X.prog X.w H σ ρ) {i : Nat} {a : Addr} {c : Cell} {d : Dt} (hi : ρ[i]? = some (some c)) (ho : c.own = true) (hs : σ[i]? = some (some (.ref a))) (hd : frzOf (.new c) = some d) :
    ∃ H', Inv X pins σ H' s ∧ Rep X.prog X.w H' σ (ρ.set i none) ∧ Le (ownA σ ρ) H (ownA σ (ρ.set i none)) H' ∧ Dtv X.prog X.w H' (.ref a) d := by
  obtain ⟨a', h1, hw⟩ := R.own i c hi ho
  rw [hs] at h1
  cases h1
  have fin : ∀ {u : HO}, H a = some u → Mut (some u) → (∀ od, Kp H (upd H a (.frz od u)) → Dtv X.prog X.w (upd H a (.frz od u)) (.ref a) d) →
      ∃ H', Inv X pins σ H' s ∧ Rep X.prog X.w H' σ (ρ.set i none) ∧ Le (ownA σ ρ) H (ownA σ (ρ.set i none)) H' ∧ Dtv X.prog X.w H' (.ref a) d := fun {u} e mu h => by
    obtain ⟨od, I'⟩ := I.lock e mu
    have k := kp_put (o := .frz od u) hw.unf
    refine ⟨_, I', (R.del i).of k fun b m => upd_ne fun z => ?_, ⟨fun b o e n => ?_, fun b e => ?_, fun b m => .inl (ownA_del b m)⟩, h od k⟩
    · subst z
      obtain ⟨j, c', g1, g2, g3⟩ := m
      rcases set_get g1 with ⟨_, e⟩ | ⟨hj, e⟩
      · cases e
      · exact hj (R.ne j i c' c b e g2 hi ho g3 hs)
    · rw [upd_ne]
      · exact e
      · rintro rfl
        exact n ⟨i, c, hi, ho, hs⟩
    · by_cases hb : b = a
      · rw [hb, upd_same] at e; cases e
      · rw [upd_ne hb] at e; exact e
  cases c with
  | dat _ => cases ho
  | lst l =>
    cases hd
    obtain ⟨xs, e, hd⟩ := hw
    exact fin e True.intro fun od k => Dv.lst upd_same (hd.keep k)
  | dct kvs =>
    cases hd
    obtain ⟨o, vs, e, h1, h2, h3⟩ := hw
    exact fin e True.intro fun od k => ⟨a, od, o, vs, rfl, upd_same, h1.keep k, h2, h3.keep k⟩
theorem ret_it {pins : List (Addr × Obj)} {s : Shared} (I : Inv X pins σ H s) (R : Rep X.prog X.w H σ ρ) {v : V} {x : Dx} {d : Dt} {ρ2 : Sv} {H0 : Hp} {M : Addr → Prop} (hx : Xv X.prog X.w H0 H σ ρ v x) (hd : retOf ρ x = some (d, ρ2)) (L : Le M H0 (ownA σ ρ) H) :
    ∃ H', Inv X pins σ H' s ∧ Rep X.prog X.w H' σ ρ2 ∧ Le M H0 (ownA σ ρ2) H' ∧ Dtv X.prog X.w H' v d := by
  cases x with
  | dat t =>
    cases hd
    exact ⟨H, I, R, L, hx⟩
  | new c =>
    have hf : frzOf (.new c) = some d ∧ ρ2 = ρ := by
      cases c with
      | dat _ => cases hd
      | lst l => cases hd; exact ⟨rfl, rfl⟩
      | dct l => cases hd; exact ⟨rfl, rfl⟩
    obtain ⟨hf, rfl⟩ := hf
    obtain ⟨H', I', R', L', hv, _⟩ := lock_it I R hx hf L
    exact ⟨H', I', R', L', hv⟩
  | own i =>
    have hx : σ[i]? = some (some v) := hx
    have go : ∀ {c : Cell}, ρ[i]? = some (some c) → c.own = true → frzOf (.new c) = some d → ρ2 = ρ.set i none → ∃ H', Inv X pins σ H' s ∧ Rep X.prog X.w H' σ ρ2 ∧ Le M H0 (ownA σ ρ2) H' ∧ Dtv X.prog X.w H' v d := fun {c} h1 h2 h3 h4 => by
      subst h4
      obtain ⟨a, ha, _⟩ := R.own i c h1 h2
      rw [ha] at hx
      cases hx
      obtain ⟨H', I', R', L', hv⟩ := lock_own I R h1 h2 ha h3
      exact ⟨H', I', R', L.trans L', hv⟩
    have hd : retAt ρ i = some (d, ρ2) := hd
    unfold retAt at hd
    split at hd
    · rename_i e2
      cases hd
      exact go e2 rfl rfl rfl
    · rename_i e2
      cases hd
      exact go e2 rfl rfl rfl
    · cases hd
def sRet (E : Et) : Stt := fun ρ R => E ρ fun x ρ1 => ∃ d ρ2, retOf ρ1 x = some (d, ρ2) ∧ R.rt d ρ2
theorem ds_ret (h : DE X e E) : DS X (.Return (some e) pos) (sRet E) := by
  refine ⟨fun pins s σ H D I ⟨ρ, R, rep, hE, t⟩ => ?_⟩
  refine wpAny_Return_some (thn (run1 h I rep hE) fun v s1 ⟨z, x, ρ1, H1, B1, r1, ⟨d, ρ2, hd, hR⟩, x1⟩ => ?_)
  obtain ⟨H2, I2, R2, L2, hv⟩ := ret_it B1.inv B1.rep x1 hd B1.le
  exact ⟨z, σ, H2, I2, r1, t.rt d z ρ2 σ H2 hR (.of L2) R2 hv⟩
/-- an own thing is data from here on -/
def sLock (i : Nat) (S : Stt) : Stt := fun ρ R => ∃ c d, ρ[i]? = some (some c) ∧ c.own = true ∧ frzOf (.new c) = some d ∧ S (ρ.set i (some (.dat d))) R
theorem dss_lock {i : Nat} (h : DSs X sts S) : DSs X sts (sLock i S) := by
  refine ⟨fun pins s σ H D I ⟨ρ, R, rep, ⟨c, d, hi, ho, hd, hS⟩, t⟩ => ?_⟩
  obtain ⟨a, ha, _⟩ := rep.own i c hi ho
  obtain ⟨H', I', R', L', hv⟩ := lock_own I rep hi ho ha hd
  have hl : i < (ρ.set i none).length := by rw [List.length_set]; exact (List.getElem?_eq_some_iff.mp hi).1
  have R2 := R'.store (Hs := H') (i := i) (v := .ref a) (x := .dat d) (c := .dat d) hl hv rfl
  have e1 : σ.set i (some (.ref a)) = σ := by
    obtain ⟨hl, e⟩ := List.getElem?_eq_some_iff.mp ha
    rw [← e]
    exact List.set_getElem_self hl
  rw [e1, List.set_set] at R2
  have L2 : Le (ownA σ ρ) H (ownA σ (ρ.set i (some (.dat d)))) H' := L'.less fun b m => by
    obtain ⟨j, c', g1, g2, g3⟩ := m
    rcases set_get g1 with ⟨_, e⟩ | ⟨hj, e⟩
    · cases e; cases g2
    · exact ⟨j, c', by rw [List.getElem?_set_ne (Ne.symm hj)]; exact e, g2, g3⟩
  exact h.run pins s σ H' D I' ⟨_, R, R2, hS, t.later (.of L2)⟩
end
end DL
end DLi
section DLj
set_option Elab.async false
set_option linter.all false
set_option maxRecDepth 100000
set_option maxHeartbeats 1000000
/-! DLj: targets, what is walked, for, while, comprehensions -/
namespace DL
open PySem PySem.Spec PyProof.Rows L2

abbrev Gt := PyData → Sv → (Sv → Prop) → Prop
/-- slots vs alone are stored -/
def rdG (P : Program) (w : World) (vs : List Nat) (G : Gt) : TG := fun v σ H Q => ∃ ρ d R, Rep P w H σ ρ ∧ Dv H v d ∧ G d ρ R ∧
  ∀ ρ' σ' H', R ρ' → Le (ownA σ ρ) H (ownA σ' ρ') H' → Rep P w H' σ' ρ' → (∀ j, j ∉ vs → σ'[j]? = σ[j]?) → σ'.length = σ.length → Q σ' H'
abbrev DG (X : Cx) (tg : Expr) (vs : List Nat) (G : Gt) : Prop := PG X tg (rdG X.prog X.w vs G)
section
variable {X : Cx} {st : Stmt} {sts rest : List Stmt} {S S1 S2 : Stt} {a b c e o tg iter elt : Expr} {K : PySem.W.Frag} {E Ea Eb : Et} {T : Tt} {pos : Pos} {G : Gt} {vs : List Nat}
variable {P : Program} {w : World} {H H' H1 Hs : Hp} {σ σ' : L2.St} {ρ ρ' ρ1 : Sv}
theorem PG.imp {t t' : TG} (h : PG X tg t) (k : ∀ v σ H Q, t' v σ H Q → t v σ H Q) : PG X tg t' := ⟨fun pins s σ H v u Q I r q => h.run pins s σ H v u Q I r (k v σ H Q q)⟩
def gN (i : Nat) : Gt := fun d ρ R => i < ρ.length ∧ R (ρ.set i (some (.dat (.d d))))
theorem store_d (R : Rep P w H σ ρ) {i : Nat} {v : V} {d : PyData} (hi : i < ρ.length) (hv : Dv H v d) : Rep P w H (σ.set i (some v)) (ρ.set i (some (.dat (.d d)))) ∧ Le (ownA σ ρ) H (ownA (σ.set i (some v)) (ρ.set i (some (.dat (.d d))))) H :=
  ⟨R.store (Hs := H) (x := .dat (.d d)) hi hv rfl, Le.store R (Le.refl _ _) (x := .dat (.d d)) hv rfl⟩
theorem dg_name {i : Nat} {x : Str} (hN : X.N.Nodup) (hi : X.N[i]? = some x) (hx : Loc X.env.scope x) (hf : X.fn x = true ∨ X.env.scope.names.lookup x = some .local := by first | exact .inl rfl | exact .inr rfl | assumption) : DG X (.Name x pos) [i] (gN i) :=
  PG.imp (pg_name hN hi hx hf) fun v σ H Q ⟨ρ, d, R, rep, hv, ⟨hl, hR⟩, q⟩ => by
    obtain ⟨h1, h2⟩ := store_d rep hl hv
    exact q _ _ _ hR h2 h1 (fun j hj => List.getElem?_set_ne fun z => hj (by simp [z])) (List.length_set ..)
/-- a, b = a pair -/
def gP (i j : Nat) : Gt := fun d ρ R => ∃ x y, d = .tuple [x, y] ∧ i < ρ.length ∧ j < ρ.length ∧ R ((ρ.set i (some (.dat (.d x)))).set j (some (.dat (.d y))))
theorem dg_pair {i j : Nat} {x y : Str} {k : Nat} {p1 p2 : Pos} (hc : X.calm = true) (hN : X.N.Nodup) (hi : X.N[i]? = some x) (hj : X.N[j]? = some y) (hx : Loc X.env.scope x) (hy : Loc X.env.scope y)
    (hf : X.fn x = true ∨ X.env.scope.names.lookup x = some .local := by first | exact .inl rfl | exact .inr rfl | assumption) (hf2 : X.fn y = true ∨ X.env.scope.names.lookup y = some .local := by first | exact .inl rfl | exact .inr rfl | assumption)
    (s1 : (assignEach [.Name x p1, .Name y p2] X.env).map (·.2) = assign (.Name x p1) X.env :: (assignEach [.Name y p2] X.env).map (·.2) := by rfl) (s2 : (assignEach [.Name y p2] X.env).map (·.2) = assign (.Name y p2) X.env :: (assignEach [] X.env).map (·.2) := by rfl)
    (hn : (assignEach [.Name x p1, .Name y p2] X.env).length = 2 := by rfl) (hst : (assignEach [.Name x p1, .Name y p2] X.env).findIdx? (·.1) = none := by rfl) : DG X (.Tuple [.Name x p1, .Name y p2] k pos) [i, j] (gP i j) :=
  PG.imp (pg_tup hc (pgs_cons (pg_name hN hi hx hf) (pgs_cons (pg_name hN hj hy hf2) pgs_nil s2) s1) hn hst) fun v σ H Q ⟨ρ, d, R, rep, hv, ⟨dx, dy, e, hl1, hl2, hR⟩, q⟩ => by
    subst e
    cases hv with
    | tup ha hd =>
      cases hd with
      | cons h1 t =>
        cases t with
        | cons h2 t =>
          cases t
          refine ⟨_, _, rfl, .inl (.inl ha), rfl, _, _, rfl, _, _, rfl, rfl, ?_⟩
          obtain ⟨r1, l1⟩ := store_d rep hl1 h1
          obtain ⟨r2, l2⟩ := store_d r1 (by rw [List.length_set]; exact hl2) h2
          refine q _ _ _ hR (l1.trans l2) r2 (fun m hm => ?_) (by rw [List.length_set, List.length_set])
          rw [List.getElem?_set_ne fun z => hm (by simp [z]), List.getElem?_set_ne fun z => hm (by simp [z])]
/-- target = e -/
def sAsg (E : Et) (G : Gt) : Stt := fun ρ R => E ρ fun x ρ1 => ∃ d, x = .dat (.d d) ∧ G d ρ1 R.nx
theorem ds_asg (he : DE X e E) (hg : DG X tg vs G) (hs : swapsWithSole [tg] e pos.line X.env = pure false := by rfl) (hw : swappedStores [tg] e X.env = pure none := by rfl)
    (h1 : (assignEach [tg] X.env).map (·.2) = [assign tg X.env] := by rfl) (h0 : 0 ∉ vs := by decide) : DS X (.Assign [tg] e pos) (sAsg E G) :=
  PS.imp (ps_asg he hg hs hw h1) fun D σ H ⟨ρ, R, rep, h, t⟩ => ⟨ρ, _, rep, h, fun z H2 ⟨x, ρ2, ⟨d, e, q⟩, le, rep2, hx⟩ => by
    subst e
    exact ⟨ρ2, d, _, rep2, hx, q, fun ρ' σ' H' r l rp off _ => t.nx ρ' σ' H' r ⟨le.trans l, off 0 h0⟩ rp⟩⟩

/-! ### what is walked -/
structure ItD (J : It) (H : Hp) (l : List PyData) : Prop where
  go : ∀ i d H', l[i]? = some d → Kp H H' → J.go i H' ∧ ∀ x H'', J.yld i H' x H'' → (∀ b o, H' b = some o → H'' b = some o) ∧ (∀ b, H'' b = none → H' b = none) ∧ Dv H'' x d
  stop : ∀ H', Kp H H' → J.stop l.length H'
abbrev Wt := Sv → (List PyData → Sv → Prop) → Prop
def rdI (P : Program) (w : World) (W : Wt) : TI := fun σ H Rr => ∃ ρ R, Rep P w H σ ρ ∧ W ρ R ∧ ∀ l ρ1 H1 J, R l ρ1 → Le (ownA σ ρ) H (ownA σ ρ1) H1 → Rep P w H1 σ ρ1 → l.length ≤ sizeLine → ItD J H1 l → Rr J H1
abbrev DI (X : Cx) (tg iter : Expr) (W : Wt) : Prop := PI X tg iter (rdI X.prog X.w W)
theorem PI.imp {t t' : TI} (h : PI X tg iter t) (k : ∀ pins s σ H R, Inv X pins σ H s → t' σ H R → t σ H R) : PI X tg iter t' := ⟨fun pins s σ H R I q => h.run pins s σ H R I (k pins s σ H R I q)⟩
/-- a locked list, a tuple -/
theorem itl_d {p : Addr} {ob : Obj} {xs : List V} {l : List PyData} (e : H p = some (.frz ob (.lst xs))) (h : DvAll H xs l) : ItD (Itl K p) H l where
  go := fun i d H' hi k => by
    obtain ⟨v, h1, h2⟩ := h.get hi
    have s : SqL K H' p xs := .inl (.inr ⟨ob, k.frz _ _ _ e⟩)
    exact ⟨⟨xs, v, s, h1⟩, fun x H'' ⟨e1, h3⟩ => by subst e1; exact ⟨fun _ _ q => q, fun _ q => q, by rw [show x = v from Option.some.inj ((h3 xs s).symm.trans h1)]; exact h2.keep k⟩⟩
  stop := fun H' k => ⟨xs, .inl (.inr ⟨ob, k.frz _ _ _ e⟩), by rw [h.length]; exact Nat.le_refl _⟩
theorem itt_d {p : Addr} {xs : List V} {l : List PyData} (e : H p = some (.tup xs)) (h : DvAll H xs l) : ItD (Itt K p) H l where
  go := fun i d H' hi k => by
    obtain ⟨v, h1, h2⟩ := h.get hi
    have s : SqT K H' p xs := .inl (.inl (k.tup _ _ e))
    exact ⟨⟨xs, v, s, h1⟩, fun x H'' ⟨e1, h3⟩ => by subst e1; exact ⟨fun _ _ q => q, fun _ q => q, by rw [show x = v from Option.some.inj ((h3 xs s).symm.trans h1)]; exact h2.keep k⟩⟩
  stop := fun H' k => ⟨xs, .inl (.inl (k.tup _ _ e)), by rw [h.length]; exact Nat.le_refl _⟩
/-- a list that is data (or new), a tuple -/
def wList (E : Et) : Wt := fun ρ Q => E ρ fun x ρ1 => ∃ l, x = .dat (.d (.list l)) ∧ Q l ρ1
def wTup (E : Et) : Wt := fun ρ Q => E ρ fun x ρ1 => ∃ l, x = .dat (.d (.tuple l)) ∧ Q l ρ1
/-- the thing's size: from the state -/
theorem size_frz {pins : List (Addr × Obj)} {s : Shared} (I : Inv X pins σ H s) {p : Addr} {ob : Obj} {xs : List V} (e : H p = some (.frz ob (.lst xs))) : xs.length ≤ sizeLine := (Rd.lstI I (.inr ⟨ob, e⟩)).1
theorem size_tup {pins : List (Addr × Obj)} {s : Shared} (I : Inv X pins σ H s) {p : Addr} {xs : List V} (e : H p = some (.tup xs)) : xs.length ≤ sizeLine := (I.hok p _ e).1
/-- every list and tuple that is tracked has a size -/
def SzH (H : Hp) : Prop := ∀ p xs, (Rd H p (.lst xs) ∨ H p = some (.tup xs)) → xs.length ≤ sizeLine
theorem pe_sz {t : TE} (h : PE X e t) : PE X e (fun σ H Q => t σ H fun z H1 => SzH H1 → Q z H1) := by
  refine ⟨fun pins s σ H Q I hq => thn (h.run pins s σ H _ I hq) fun v s1 ⟨z, H1, I1, r1, q⟩ => ⟨z, H1, I1, r1, q fun p xs hx => ?_⟩⟩
  rcases hx with e | e
  · exact (Rd.lstI I1 e).1
  · exact size_tup I1 e
theorem di_list (h : DE X e E) : DI X tg e (wList E) :=
  PI.imp (pi_list (pe_sz h)) fun pins s σ H Rr I ⟨ρ, R, rep, hE, q⟩ => ⟨ρ, _, rep, hE, fun z H1 ⟨x, ρ1, ⟨l, ex, hR⟩, le1, rep1, x1⟩ sz => by
    subst ex
    have x1 : Dv H1 z (.list l) := x1
    cases x1 with
    | lst e hd => exact ⟨_, rfl, ⟨_, .inl (.inr ⟨_, e⟩)⟩, q l ρ1 H1 _ hR le1 rep1 (by rw [← hd.length]; exact sz _ _ (.inl (.inr ⟨_, e⟩))) (itl_d e hd)⟩⟩
theorem di_tup (h : DE X e E) : DI X tg e (wTup E) :=
  PI.imp (pi_tup (pe_sz h)) fun pins s σ H Rr I ⟨ρ, R, rep, hE, q⟩ => ⟨ρ, _, rep, hE, fun z H1 ⟨x, ρ1, ⟨l, ex, hR⟩, le1, rep1, x1⟩ sz => by
    subst ex
    have x1 : Dv H1 z (.tuple l) := x1
    cases x1 with
    | tup e hd => exact ⟨_, rfl, ⟨_, .inl (.inl e)⟩, q l ρ1 H1 _ hR le1 rep1 (by rw [← hd.length]; exact sz _ _ (.inr e)) (itt_d e hd)⟩⟩
/-- ranges -/
def rgFrom (lo : Int) (n : Nat) : List PyData := (List.range n).map fun i => .int (lo + (i : Nat))
theorem rgFrom_get {lo : Int} {n i : Nat} {d : PyData} (h : (rgFrom lo n)[i]? = some d) : i < n ∧ d = .int (lo + (i : Nat)) := by
  unfold rgFrom at h
  rw [List.getElem?_map] at h
  by_cases hi : i < n
  · rw [List.getElem?_range hi] at h
    exact ⟨hi, (Option.some.inj h).symm⟩
  · rw [List.getElem?_eq_none (by simpa using hi)] at h
    cases h
theorem itr_d (lo : Int) (n : Nat) : ItD (Itr lo n) H (rgFrom lo n) where
  go := fun i d H' hi k => by
    obtain ⟨h1, rfl⟩ := rgFrom_get hi
    exact ⟨h1, fun x H'' ⟨e1, e2⟩ => by subst e1 e2; exact ⟨fun _ _ q => q, fun _ q => q, .int _⟩⟩
  stop := fun H' k => by
    unfold rgFrom
    rw [List.length_map, List.length_range]
    exact Nat.le_refl _
def wRange1 (A : At) : Wt := fun ρ Q => A ρ fun xs ρ1 => ∃ n : Int, dats xs = some [.int n] ∧ n ≤ 1000000 ∧ -1000000 ≤ n ∧ Q (rgFrom 0 n.toNat) ρ1
def wRange2 (A : At) : Wt := fun ρ Q => A ρ fun xs ρ1 => ∃ m n : Int, dats xs = some [.int m, .int n] ∧ n ≤ 1000000 ∧ -1000000 ≤ n ∧ m ≤ 1000000 ∧ -1000000 ≤ m ∧ Q (rgFrom m (n - m).toNat) ρ1
/-- range(a, b, -1) -/
def rgDown (lo : Int) (n : Nat) : List PyData := (List.range n).map fun i => .int (lo - (i : Nat))
def wRange3 (A : At) : Wt := fun ρ Q => A ρ fun xs ρ1 => ∃ m n : Int, dats xs = some [.int m, .int n, .int (-1)] ∧ n ≤ 1000000 ∧ -1000000 ≤ n ∧ m ≤ 1000000 ∧ -1000000 ≤ m ∧ Q (rgDown m (m - n).toNat) ρ1
theorem small_line {n : Nat} (h : n ≤ 2000000) : n ≤ sizeLine := Nat.le_trans h (by decide)
theorem rgFrom_len (lo : Int) (n : Nat) : (rgFrom lo n).length = n := by unfold rgFrom; rw [List.length_map, List.length_range]
theorem rgDown_len (lo : Int) (n : Nat) : (rgDown lo n).length = n := by unfold rgDown; rw [List.length_map, List.length_range]
theorem itc_d (lo : Int) (n : Nat) : ItD (Itc lo (-1) n) H (rgDown lo n) where
  go := fun i d H' hi k => by
    unfold rgDown at hi
    rw [List.getElem?_map] at hi
    by_cases hn : i < n
    · rw [List.getElem?_range hn] at hi
      have e := (Option.some.inj hi).symm
      subst e
      refine ⟨hn, fun x H'' ⟨e1, e2⟩ => ?_⟩
      subst e1 e2
      exact ⟨fun _ _ q => q, fun _ q => q, by rw [show lo + (i : Nat) * (-1) = lo - (i : Nat) by omega]; exact .int _⟩
    · rw [List.getElem?_eq_none (by simpa using hn)] at hi
      cases hi
  stop := fun H' k => by
    rw [rgDown_len]
    exact Nat.le_refl _
section
variable {A : At} {x : Str} {p : Pos}
theorem di_range1 (hx : x = ("range" : Str)) (hg : Gl X x) (hm : X.mg "range" = none) (ha : DA X [a] A) (hs : starEach [a] X.env = [(false, eval a X.env)] := by rfl) : DI X tg (.Call (.Name x p) [a] [] pos) (wRange1 A) := by
  subst hx
  refine PI.imp (pi_range1 hg hm ha hs) fun pins s σ H Rr I ⟨ρ, R, rep, hE, q⟩ => ⟨ρ, _, rep, hE, fun vs H2 xs ρ2 ⟨n, ex, h1, h2, hR⟩ le rep2 hx => ?_⟩
  have hv := (dats_all ex).dv hx
  cases hv with
  | cons hv t =>
    cases t
    cases hv
    exact ⟨n, rfl, by omega, by omega, q _ ρ2 H2 _ hR le rep2 (by rw [rgFrom_len]; exact small_line (by omega)) (itr_d 0 n.toNat)⟩
theorem di_range2 (hx : x = ("range" : Str)) (hg : Gl X x) (hm : X.mg "range" = none) (ha : DA X [a, b] A) (hs : starEach [a, b] X.env = [(false, eval a X.env), (false, eval b X.env)] := by rfl) (hs2 : starEach [b] X.env = [(false, eval b X.env)] := by rfl) : DI X tg (.Call (.Name x p) [a, b] [] pos) (wRange2 A) := by
  subst hx
  refine PI.imp (pi_range2 hg hm ha hs hs2) fun pins s σ H Rr I ⟨ρ, R, rep, hE, q⟩ => ⟨ρ, _, rep, hE, fun vs H2 xs ρ2 ⟨m, n, ex, h1, h2, h3, h4, hR⟩ le rep2 hx => ?_⟩
  have hv := (dats_all ex).dv hx
  cases hv with
  | cons hv t =>
    cases hv
    cases t with
    | cons hv t =>
      cases hv
      cases t
      exact ⟨m, n, rfl, ⟨by omega, by omega, by omega, by omega⟩, q _ ρ2 H2 _ hR le rep2 (by rw [rgFrom_len]; exact small_line (by omega)) (itr_d m (n - m).toNat)⟩
theorem di_range3 (hx : x = ("range" : Str)) (hg : Gl X x) (hm : X.mg "range" = none) (ha : DA X [a, b, c] A) (hs : starEach [a, b, c] X.env = (false, eval a X.env) :: starEach [b, c] X.env := by rfl) (hpl : (backTo pos (starEach [b, c] X.env)).any (·.1) = false := by rfl) : DI X tg (.Call (.Name x p) [a, b, c] [] pos) (wRange3 A) := by
  subst hx
  refine PI.imp (pi_range3 hg hm ha hs hpl) fun pins s σ H Rr I ⟨ρ, R, rep, hE, q⟩ => ⟨ρ, _, rep, hE, fun vs H2 xs ρ2 ⟨m, n, ex, h1, h2, h3, h4, hR⟩ le rep2 hx => ?_⟩
  have hv := (dats_all ex).dv hx
  cases hv with
  | cons hv t =>
    cases hv
    cases t with
    | cons hv t =>
      cases hv
      cases t with
      | cons hv t =>
        cases hv
        cases t
        exact ⟨m, n, -1, _, rfl, RgC.neg (by omega) (by omega) (by omega) (by omega), q _ ρ2 H2 _ hR le rep2 (by rw [rgDown_len]; exact small_line (by omega)) (itc_d m (m - n).toNat)⟩
end

/-! ### for -/
def forW (G : Gt) (S : Stt) : List PyData → Sv → DEnds → Prop
  | [], ρ, R => R.nx ρ
  | d :: l, ρ, R => G d ρ fun ρ1 => S ρ1 ⟨fun ρ2 => forW G S l ρ2 R, R.rt, R.nx, fun ρ2 => forW G S l ρ2 R⟩
def sFor (W : Wt) (G : Gt) (S : Stt) : Stt := fun ρ R => W ρ fun l ρ1 => forW G S l ρ1 R
theorem ds_for {W : Wt} (hp : PassesOwn (model X.prog X.w) X.A X.env X.xe) (hc : X.calm = true) (hi : DI X tg iter W) (hg : DG X tg vs G) (hb : DSs X sts S)
    (hs : ∀ x, foldedSetIterable iter X.env x = pure x := by intro _; rfl) (h0 : 0 ∉ vs := by decide) : DS X (.For tg iter sts [] pos) (sFor W G S) := by
  refine PS.imp (ps_for hp hc hi hg hb hs) fun D σ H ⟨ρ, R, rep, hW, t⟩ => ⟨ρ, _, rep, hW, fun l ρ1 H1 J hF le1 rep1 sz it => ?_⟩
  refine ⟨fun i m σ' H' => m = l.length - i ∧ i ≤ l.length ∧ ∃ ρ', Rep X.prog X.w H' σ' ρ' ∧ Lz σ ρ1 H1 σ' ρ' H' ∧ forW G S (l.drop i) ρ' R, ⟨l.length, by omega, by omega, ρ1, rep1, Lz.refl _ _ _, by simpa using hF⟩, ?_⟩
  rintro i m σ' H' ⟨rfl, hi, ρ', rep', le', hF'⟩
  have kp : Kp H1 H' := rep1.kp le'.le
  by_cases hlt : i < l.length
  · have hd : l[i]? = some l[i] := List.getElem?_eq_getElem hlt
    rw [List.drop_eq_getElem_cons hlt] at hF'
    obtain ⟨g1, g2⟩ := it.go i _ H' hd kp
    refine .inr ⟨g1, fun σ2 H2 => ∃ ρ2, Rep X.prog X.w H2 σ2 ρ2 ∧ Lz σ ρ1 H1 σ2 ρ2 H2 ∧ forW G S (l.drop (i + 1)) ρ2 R, fun σ2 H2 ⟨ρ2, r2, l2, f2⟩ => ⟨l.length - (i + 1), by omega, rfl, hlt, ρ2, r2, l2, f2⟩, fun x H2 y => ?_⟩
    obtain ⟨s1, s2, hv⟩ := g2 x H2 y
    have ley : Le (ownA σ' ρ') H' (ownA σ' ρ') H2 := ⟨fun b o e _ => s1 b o e, s2, fun b m => .inl m⟩
    have repy : Rep X.prog X.w H2 σ' ρ' := rep'.same s1
    refine ⟨ρ', l[i], _, repy, hv, hF', fun ρ3 σ3 H3 hS le3 rep3 off _ => ?_⟩
    have L3 : Lz σ ρ1 H1 σ3 ρ3 H3 := le'.trans ⟨ley.trans le3, off 0 h0⟩
    have le1 : Lz σ ρ H σ ρ1 H1 := .of le1
    refine ⟨ρ3, _, rep3, hS, ⟨fun ρ4 σ4 H4 q le4 rep4 => ⟨ρ4, rep4, L3.trans le4, q⟩, fun d v ρ4 σ4 H4 q le4 rep4 hd => t.rt d v ρ4 σ4 H4 q ((le1.trans L3).trans le4) rep4 hd,
      fun ρ4 σ4 H4 q le4 rep4 => t.nx ρ4 σ4 H4 q ((le1.trans L3).trans le4) rep4, fun ρ4 σ4 H4 q le4 rep4 => ⟨ρ4, rep4, L3.trans le4, q⟩⟩⟩
  · have e : i = l.length := by omega
    subst e
    rw [List.drop_length] at hF'
    exact .inl ⟨it.stop H' kp, t.nx ρ' σ' H' hF' ((Lz.of le1).trans le') rep'⟩

/-! ### while -/
def sWhile (T : Tt) (S : Stt) : Stt := fun ρ R => ∃ W : Nat → Sv → Prop, (∃ m, W m ρ) ∧ ∀ m ρ, W m ρ →
  T ρ fun b ρ1 => if b = true then S ρ1 ⟨fun ρ2 => ∃ m', m' < m ∧ W m' ρ2, R.rt, R.nx, fun ρ2 => ∃ m', m' < m ∧ W m' ρ2⟩ else R.nx ρ1
theorem ds_while (hp : PassesOwn (model X.prog X.w) X.A X.env X.xe) (hc : DT X c T) (hb : DSs X sts S) : DS X (.While c sts [] pos) (sWhile T S) := by
  refine PS.imp (ps_while hp hc hb) fun D σ H ⟨ρ, R, rep, ⟨W, ⟨m0, w0⟩, hW⟩, t⟩ => ?_
  refine ⟨fun m σ' H' => ∃ ρ', Rep X.prog X.w H' σ' ρ' ∧ Lz σ ρ H σ' ρ' H' ∧ W m ρ', ⟨m0, ρ, rep, Lz.refl _ _ _, w0⟩, ?_⟩
  rintro m σ' H' ⟨ρ', rep', le', wm⟩
  refine ⟨ρ', _, rep', hW m ρ' wm, fun bb ρ2 H2 q le2 rep2 => ?_⟩
  cases bb with
  | true =>
    rw [if_pos rfl] at q
    refine iteT ⟨fun σ3 H3 => ∃ m', m' < m ∧ ∃ ρ3, Rep X.prog X.w H3 σ3 ρ3 ∧ Lz σ ρ H σ3 ρ3 H3 ∧ W m' ρ3, fun σ3 H3 h => h, ρ2, _, rep2, q, ?_⟩
    have L := le'.trans (.of le2)
    exact ⟨fun ρ4 σ4 H4 ⟨m', h1, h2⟩ le4 rep4 => ⟨m', h1, ρ4, rep4, L.trans le4, h2⟩, fun d v ρ4 σ4 H4 q le4 rep4 hd => t.rt d v ρ4 σ4 H4 q (L.trans le4) rep4 hd,
      fun ρ4 σ4 H4 q le4 rep4 => t.nx ρ4 σ4 H4 q (L.trans le4) rep4, fun ρ4 σ4 H4 ⟨m', h1, h2⟩ le4 rep4 => ⟨m', h1, ρ4, rep4, L.trans le4, h2⟩⟩
  | false =>
    rw [if_neg Bool.false_ne_true] at q
    exact iteF (t.nx ρ2 σ' H2 q (le'.trans (.of le2)) rep2)
end
end DL
end DLj
section DLk
set_option Elab.async false
set_option linter.all false
set_option maxRecDepth 100000
set_option maxHeartbeats 1000000
/-! DLk: list comprehensions -/
namespace DL
open PySem PySem.Spec PyProof.Rows L2

/-- a comprehension's own slots forgotten, given back -/
def wipeE (ρ : Sv) : List Nat → Sv
  | [] => ρ
  | v :: vs => (wipeE ρ vs).set v none
def unwipe (ρ1 ρ2 : Sv) : List Nat → Sv
  | [] => ρ2
  | v :: vs => (unwipe ρ1 ρ2 vs).set v (ρ1.getD v none)
def freeE (ρ : Sv) (vs : List Nat) : Prop := ∀ i ∈ vs, ∀ c, ρ[i]? = some (some c) → c.own = false
def lcW (G : Gt) (T : Tt) (E : Et) (vs : List Nat) : List PyData → Sv → List PyData → (List PyData → Sv → Prop) → Prop
  | [], ρ, acc, Q => Q acc ρ
  | d :: l, ρ, acc, Q => G d ρ fun ρ1 => T ρ1 fun b ρ2 => if b = true then E ρ2 (fun x ρ3 => ∃ y, dats [x] = some [y] ∧ lcW G T E vs l (wipeE ρ3 vs) (acc ++ [y]) Q) else lcW G T E vs l (wipeE ρ2 vs) acc Q
def eLc (W : Wt) (G : Gt) (T : Tt) (E : Et) (vs : List Nat) : Et := fun ρ Q => W ρ fun l ρ1 => freeE ρ1 vs ∧ lcW G T E vs l (wipeE ρ1 vs) [] fun out ρ2 => Q (.new (.lst out)) (unwipe ρ1 ρ2 vs)
section
variable {P : Program} {w : World} {H H' H1 Hs : Hp} {σ σ' : L2.St} {ρ ρ' ρ1 ρ2 : Sv} {vs : List Nat}
theorem wipeE_len (ρ : Sv) : ∀ vs, (wipeE ρ vs).length = ρ.length
  | [] => rfl
  | v :: vs => by unfold wipeE; rw [List.length_set, wipeE_len ρ vs]
theorem wipeE_some {i : Nat} {c : Cell} : ∀ {vs : List Nat}, (wipeE ρ vs)[i]? = some (some c) → ρ[i]? = some (some c) ∧ i ∉ vs
  | [], h => ⟨h, by simp⟩
  | v :: vs, h => by
    unfold wipeE at h
    rcases set_get h with ⟨_, e⟩ | ⟨hj, e⟩
    · cases e
    · obtain ⟨h1, h2⟩ := wipeE_some e
      exact ⟨h1, by simp only [List.mem_cons, not_or]; exact ⟨hj, h2⟩⟩
theorem wipe_get {σ : L2.St} {i : Nat} : ∀ {vs : List Nat}, i ∉ vs → (wipe σ vs)[i]? = σ[i]?
  | [], _ => rfl
  | v :: vs, h => by
    simp only [List.mem_cons, not_or] at h
    unfold wipe
    rw [List.getElem?_set_ne (Ne.symm h.1), wipe_get h.2]
theorem wipe_at {σ : L2.St} {i : Nat} : ∀ {vs : List Nat}, i ∈ vs → (wipe σ vs)[i]? = if i < σ.length then some none else none
  | [], h => by simp at h
  | v :: vs, h => by
    unfold wipe
    by_cases e : v = i
    · subst e
      by_cases hl : v < σ.length
      · rw [List.getElem?_set_self (by rw [wipe_length]; exact hl), if_pos hl]
      · rw [List.getElem?_eq_none (by rw [List.length_set, wipe_length]; omega), if_neg hl]
    · rw [List.getElem?_set_ne e]
      rcases List.mem_cons.mp h with z | z
      · exact absurd z.symm e
      · exact wipe_at z
theorem wipe_eq {σ σ2 : L2.St} {vs : List Nat} (h : ∀ j, j ∉ vs → σ2[j]? = σ[j]?) (hl : σ2.length = σ.length) : wipe σ2 vs = wipe σ vs := by
  refine List.ext_getElem? fun j => ?_
  by_cases hj : j ∈ vs
  · rw [wipe_at hj, wipe_at hj, hl]
  · rw [wipe_get hj, wipe_get hj, h j hj]
theorem wipe_wipe {σ : L2.St} {vs : List Nat} : wipe (wipe σ vs) vs = wipe σ vs := wipe_eq (fun j hj => wipe_get hj) (wipe_length _ _)
theorem Rep.wiped (R : Rep P w H σ ρ) (vs : List Nat) : Rep P w H (wipe σ vs) (wipeE ρ vs) := by
  refine ⟨by rw [wipe_length, wipeE_len]; exact R.len, fun i d h => ?_, fun i c h ho => ?_, fun i j c c' a h1 o1 h2 o2 e1 e2 => ?_⟩
  · obtain ⟨h1, h2⟩ := wipeE_some h
    rw [wipe_get h2]
    exact R.dat i d h1
  · obtain ⟨h1, h2⟩ := wipeE_some h
    rw [wipe_get h2]
    exact R.own i c h1 ho
  · obtain ⟨g1, n1⟩ := wipeE_some h1
    obtain ⟨g2, n2⟩ := wipeE_some h2
    rw [wipe_get n1] at e1
    rw [wipe_get n2] at e2
    exact R.ne i j c c' a g1 o1 g2 o2 e1 e2
theorem ownA_wiped {vs : List Nat} {b : Addr} (m : ownA (wipe σ vs) (wipeE ρ vs) b) : ownA σ ρ b := by
  obtain ⟨i, c, h1, h2, h3⟩ := m
  obtain ⟨g1, n1⟩ := wipeE_some h1
  rw [wipe_get n1] at h3
  exact ⟨i, c, g1, h2, h3⟩
theorem unwipe_len (ρ1 ρ2 : Sv) : ∀ vs, (unwipe ρ1 ρ2 vs).length = ρ2.length
  | [] => rfl
  | v :: vs => by unfold unwipe; rw [List.length_set, unwipe_len ρ1 ρ2 vs]
theorem unwipe_some {i : Nat} {c : Cell} : ∀ {vs : List Nat}, (unwipe ρ1 ρ2 vs)[i]? = some (some c) → (i ∈ vs ∧ ρ1[i]? = some (some c)) ∨ (i ∉ vs ∧ ρ2[i]? = some (some c))
  | [], h => .inr ⟨by simp, h⟩
  | v :: vs, h => by
    unfold unwipe at h
    rcases set_get h with ⟨rfl, e⟩ | ⟨hj, e⟩
    · refine .inl ⟨List.mem_cons_self, ?_⟩
      rw [List.getD_eq_getElem?_getD] at e
      cases q : ρ1[i]? with
      | none => rw [q] at e; cases e
      | some u => rw [q] at e; rw [show some c = u from e]
    · rcases unwipe_some e with ⟨h1, h2⟩ | ⟨h1, h2⟩
      · exact .inl ⟨List.mem_cons_of_mem _ h1, h2⟩
      · exact .inr ⟨by simp only [List.mem_cons, not_or]; exact ⟨hj, h1⟩, h2⟩
/-- the comprehension's end -/
theorem Rep.unwiped (R : Rep P w H σ ρ1) (k : Kp H H') (R2 : Rep P w H' (wipe σ vs) ρ2) (f : freeE ρ1 vs) : Rep P w H' σ (unwipe ρ1 ρ2 vs) := by
  have out : ∀ {i : Nat} {c : Cell}, (unwipe ρ1 ρ2 vs)[i]? = some (some c) → c.own = true → i ∉ vs ∧ ρ2[i]? = some (some c) := fun {i c} h ho => by
    rcases unwipe_some h with ⟨h1, h2⟩ | h1
    · rw [f i h1 c h2] at ho; cases ho
    · exact h1
  refine ⟨by rw [unwipe_len, ← R2.len, wipe_length], fun i d h => ?_, fun i c h ho => ?_, fun i j c c' a h1 o1 h2 o2 e1 e2 => ?_⟩
  · rcases unwipe_some h with ⟨h1, h2⟩ | ⟨h1, h2⟩
    · obtain ⟨v, g1, g2⟩ := R.dat i d h2
      exact ⟨v, g1, g2.keep k⟩
    · obtain ⟨v, g1, g2⟩ := R2.dat i d h2
      rw [wipe_get h1] at g1
      exact ⟨v, g1, g2⟩
  · obtain ⟨h1, h2⟩ := out h ho
    obtain ⟨a, g1, g2⟩ := R2.own i c h2 ho
    rw [wipe_get h1] at g1
    exact ⟨a, g1, g2⟩
  · obtain ⟨n1, g1⟩ := out h1 o1
    obtain ⟨n2, g2⟩ := out h2 o2
    rw [← wipe_get n1] at e1
    rw [← wipe_get n2] at e2
    exact R2.ne i j c c' a g1 o1 g2 o2 e1 e2
theorem ownA_unwiped (f : freeE ρ1 vs) {b : Addr} (m : ownA σ (unwipe ρ1 ρ2 vs) b) : ownA (wipe σ vs) ρ2 b := by
  obtain ⟨i, c, h1, h2, h3⟩ := m
  rcases unwipe_some h1 with ⟨g1, g2⟩ | ⟨g1, g2⟩
  · rw [f i g1 c g2] at h2; cases h2
  · exact ⟨i, c, g2, h2, by rw [wipe_get g1]; exact h3⟩
end
section
variable {X : Cx} {elt tg iter : Expr} {ifs : List Expr} {scope : Scope} {own : List (Str × Nat)} {pos spos py : Pos} {W : Wt} {G : Gt} {T : Tt} {E : Et} {gv : List Nat}
abbrev DTs (X : Cx) (ifs : List Expr) (T : Tt) : Prop := PTs X ifs (rdT X.prog X.w T)
def tYesD : Tt := fun ρ Q => Q true ρ
theorem dts_nil : DTs X [] tYesD := ⟨fun pins s σ H Q I ⟨ρ, R, rep, h, q⟩ => pts_nil.run pins s σ H Q I (q _ _ _ h (Le.refl _ _) rep)⟩
theorem dts_one {c : Expr} (h : DT X c T) : DTs X [c] T := pts_one h
theorem lc_d (hsub : ∀ i ∈ gv, i ∈ own.map (·.2)) {σ : L2.St} {H : Hp} {Q : VK} (h : rdE X.prog X.w (eLc W G T E (own.map (·.2))) σ H Q) :
    tLc (rdI X.prog X.w W) (rdG X.prog X.w gv G) (rdT X.prog X.w T) (rdE X.prog X.w E) (own.map (·.2)) σ H Q := by
  generalize own.map (·.2) = vs at h hsub
  obtain ⟨ρ, R, rep, hW, q⟩ := h
  refine ⟨ρ, _, rep, hW, fun l ρ1 H1 J ⟨hf, hlc⟩ le1 rep1 sz it D hD => ?_⟩
  let Inside : Nat → Hp → Prop := fun i H' => ∃ ρ' acc xs, Rep X.prog X.w H' (wipe σ vs) ρ' ∧ Le (ownA σ ρ1) H1 (ownA (wipe σ vs) ρ') H' ∧ H' D = some (.lst xs) ∧ DvAll H' xs acc ∧ ¬ ownA (wipe σ vs) ρ' D ∧ acc.length ≤ i ∧
    lcW G T E vs (l.drop i) ρ' acc fun out ρ2 => R (.new (.lst out)) (unwipe ρ1 ρ2 vs)
  have nD : ¬ ownA σ ρ1 D := fun m => rep1.tracked m hD
  have start : Inside 0 (upd H1 D (.lst [])) := by
    refine ⟨wipeE ρ1 vs, [], [], (rep1.wiped vs).laid hD, ((Le.refl _ _).less fun b m => ownA_wiped m).fresh hD, upd_same, .nil, fun m => nD (ownA_wiped m), Nat.le_refl _, ?_⟩
    rw [List.drop_zero]
    exact hlc
  refine ⟨fun i m H' => m = l.length - i ∧ i ≤ l.length ∧ Inside i H', ⟨l.length, by omega, by omega, start⟩, ?_⟩
  rintro i m H' ⟨rfl, hi, ρ', acc, xs, rep', le', hDx, hacc, nown, hlen, hrest⟩
  have kp : Kp H1 H' := rep1.kp le'
  by_cases hlt : i < l.length
  · have hd : l[i]? = some l[i] := List.getElem?_eq_getElem hlt
    rw [List.drop_eq_getElem_cons hlt] at hrest
    obtain ⟨g1, g2⟩ := it.go i _ H' hd kp
    refine .inr ⟨g1, Inside (i + 1), fun H2 h2 => ⟨l.length - (i + 1), by omega, rfl, hlt, h2⟩, fun x H2 y => ?_⟩
    obtain ⟨s1, s2, hv⟩ := g2 x H2 y
    have ley : Le (ownA (wipe σ vs) ρ') H' (ownA (wipe σ vs) ρ') H2 := ⟨fun b o e _ => s1 b o e, s2, fun b m => .inl m⟩
    refine ⟨ρ', l[i], _, rep'.same s1, hv, hrest, fun ρ3 σ3 H3 hS le3 rep3 off hl3 => ?_⟩
    have w3 : wipe σ3 vs = wipe σ vs := by
      have := wipe_eq (vs := vs) (fun j hj => off j fun z => hj (hsub j z)) hl3
      rw [this, wipe_wipe]
    refine ⟨w3, ρ3, _, rep3, hS, fun b ρ4 H4 hT le4 rep4 => ?_⟩
    have L4 := ((le'.trans ley).trans le3).trans le4
    -- the new list is not touched
    have stays : ∀ {σ5 : L2.St} {ρ5 : Sv} {H5 : Hp}, Le (ownA (wipe σ vs) ρ') H' (ownA σ5 ρ5) H5 → H5 D = some (.lst xs) ∧ ¬ ownA σ5 ρ5 D := fun {σ5 ρ5 H5} L => by
      refine ⟨L.keep D _ hDx nown, fun m => ?_⟩
      rcases L.new D m with z | z
      · exact nown z
      · rw [hDx] at z; cases z
    cases b with
    | true =>
      rw [if_pos rfl] at hT
      refine iteT ⟨ρ4, _, rep4, hT, fun z H5 ⟨xx, ρ5, ⟨yd, hyd, hnext⟩, le5, rep5, hx5⟩ => ?_⟩
      have Lb := ((ley.trans le3).trans le4).trans le5
      obtain ⟨e5, n5⟩ := stays Lb
      have k5 : Kp H' H5 := rep'.kp Lb
      have hyv : DvAll H5 [z] [yd] := (dats_all hyd).dv (XvAll.one' hx5)
      have ku := kp_put (o := .lst (xs ++ [z])) (.inl ⟨xs, e5⟩)
      refine ⟨xs, e5, by rw [hacc.length]; omega, wipeE ρ5 vs, acc ++ [yd], xs ++ [z], ?_, ?_, upd_same, ((hacc.keep k5).app hyv).keep ku, fun m => ?_, ?_, hnext⟩
      · have r5 := (rep5.of ku fun b m => upd_ne fun z => n5 (z ▸ m)).wiped vs
        rw [w3] at r5
        exact r5
      · refine ((L4.trans le5).less fun b m => ?_).fresh hD
        rw [← w3] at m
        exact ownA_wiped m
      · rw [← w3] at m
        exact n5 (ownA_wiped m)
      · rw [List.length_append]; simp only [List.length_cons, List.length_nil]; omega
    | false =>
      rw [if_neg Bool.false_ne_true] at hT
      have Lb := (ley.trans le3).trans le4
      obtain ⟨e5, n5⟩ := stays Lb
      have k5 : Kp H' H4 := rep'.kp Lb
      refine iteF ⟨wipeE ρ4 vs, acc, xs, ?_, ?_, e5, hacc.keep k5, fun m => ?_, by omega, hT⟩
      · have r5 := rep4.wiped vs
        rw [w3] at r5
        exact r5
      · refine L4.less fun b m => ?_
        rw [← w3] at m
        exact ownA_wiped m
      · rw [← w3] at m
        exact n5 (ownA_wiped m)
  · have e : i = l.length := by omega
    subst e
    rw [List.drop_length] at hrest
    refine .inl ⟨it.stop H' kp, q _ _ ⟨_, _, hrest, (le1.trans le').less fun b m => ownA_unwiped hf m, rep1.unwiped kp rep' hf, D, rfl, rfl, ⟨xs, hDx, hacc⟩, le1.trk D hD, fun m => nown (ownA_unwiped hf m)⟩⟩
theorem de_lc (hc : X.calm = true) (hN : X.N.Nodup) (hi : DI X tg iter W) (ok : BlkOk X.N X.env.scope scope own)
    (hg : ∀ (s : Shared) (H : Hp) (C : Addr) (cl : List (Str × Addr)) (fp : List Addr), DG (X.blk s H scope (compEnvC scope cl C X.env) fp) tg gv G)
    (ht : ∀ (s : Shared) (H : Hp) (C : Addr) (cl : List (Str × Addr)) (fp : List Addr), DTs (X.blk s H scope (compEnvC scope cl C X.env) fp) ifs T)
    (he : ∀ (s : Shared) (H : Hp) (C : Addr) (cl : List (Str × Addr)) (fp : List Addr), DE (X.blk s H scope (compEnvC scope cl C X.env) fp) elt E) (hsub : ∀ i ∈ gv, i ∈ own.map (·.2) := by decide) (hs : ∀ x, foldedSetIterable iter X.env x = pure x := by intro _; rfl) :
    DE X (.ListComp elt [⟨tg, iter, ifs, 0⟩] scope pos) (eLc W G T E (own.map (·.2))) := PE.imp (pe_lc hc hN hi ok hg ht he hs) fun σ H Q h => lc_d hsub h
/-- name = [..] -/
theorem ds_setLc {i : Nat} {y : Str} (hc : X.calm = true) (hN : X.N.Nodup) (hy : X.N[i]? = some y) (hyl : X.env.scope.names.lookup y = some .local) (hsw : swapsWith (.ListComp elt [⟨tg, iter, ifs, 0⟩] scope pos) (some (.Name y py)) spos.line X.env = pure true)
    (hi : DI X tg iter W) (ok : BlkOk X.N X.env.scope scope own) (hg : ∀ (s : Shared) (H : Hp) (C : Addr) (cl : List (Str × Addr)) (fp : List Addr), DG (X.blk s H scope (compEnvC scope cl C X.env) fp) tg gv G)
    (ht : ∀ (s : Shared) (H : Hp) (C : Addr) (cl : List (Str × Addr)) (fp : List Addr), DTs (X.blk s H scope (compEnvC scope cl C X.env) fp) ifs T)
    (he : ∀ (s : Shared) (H : Hp) (C : Addr) (cl : List (Str × Addr)) (fp : List Addr), DE (X.blk s H scope (compEnvC scope cl C X.env) fp) elt E) (hsub : ∀ i ∈ gv, i ∈ own.map (·.2) := by decide) (hs : ∀ x, foldedSetIterable iter X.env x = pure x := by intro _; rfl) (h0 : i ≠ 0 := by decide) :
    DS X (.Assign [.Name y py] (.ListComp elt [⟨tg, iter, ifs, 0⟩] scope pos) spos) (sSet i (eLc W G T E (own.map (·.2)))) :=
  PS.imp (ps_setLc hc hN hy hyl hsw hi ok hg ht he hs) fun D σ H ⟨ρ, R, rep, h, t⟩ => lc_d hsub ⟨ρ, _, rep, h, fun z H2 ⟨x, ρ2, ⟨c, hc, hl, q⟩, le, rep2, hx⟩ => t.nx _ _ H2 q ⟨Le.store rep2 le hx hc, set_z h0⟩ (rep2.store hl hx hc)⟩
end
end DL
end DLk
section DLm
set_option Elab.async false
set_option linter.all false
set_option maxRecDepth 100000
set_option maxHeartbeats 1000000
/-! DLm: a def's promise by its body -/
namespace DL
open PySem PySem.Spec PyProof.Rows L2

def startD (N : List Str) (ds : List Dt) : Sv := ds.map (fun d => some (.dat d)) ++ List.replicate (N.length - ds.length) none
/-- a def's body runs: the context -/
abbrev Cb (P : Program) (w : World) (K : PySem.W.Frag) (mg : Str → Option Value) (base : Heap) (N : List Str) (qual : Str) (st : Stmt) (f : Addr) (cdv : Value) (A : Around) (outer : List Env) (s : Shared) (H : Hp) (E : XK) : Cx :=
  (cxOf CX0 P w K mg base N qual (defScope st) f cdv A outer s H E).nox
section
variable {P : Program} {w : World} {K : PySem.W.Frag} {mg : Str → Option Value} {base : Heap} {H : Hp}
theorem DtAll.get : ∀ {vs : List V} {ds : List Dt} {i : Nat} {d : Dt}, DtAll P w H vs ds → ds[i]? = some d → ∃ v, vs[i]? = some v ∧ Dtv P w H v d
  | _, _, _, _, .nil, e => by simp at e
  | _, _, 0, _, .cons h _, e => ⟨_, rfl, by cases e; exact h⟩
  | _, _, i + 1, _, .cons _ t, e => DtAll.get (i := i) t e
theorem startD_get {N : List Str} {ds : List Dt} {i : Nat} {c : Cell} (h : (startD N ds)[i]? = some (some c)) : ∃ d, ds[i]? = some d ∧ c = .dat d := by
  unfold startD at h
  by_cases hi : i < ds.length
  · rw [List.getElem?_append_left (by simpa using hi), List.getElem?_map] at h
    cases q : ds[i]? with
    | none => rw [q] at h; cases h
    | some d =>
      rw [q] at h
      cases h
      exact ⟨d, rfl, rfl⟩
  · rw [List.getElem?_append_right (by simpa using hi), List.getElem?_replicate] at h
    split at h <;> cases h
theorem start_get {N : List Str} {vs : List V} {i : Nat} {v : V} (h : vs[i]? = some v) : (L2.start N vs)[i]? = some (some v) := by
  unfold L2.start
  have hi : i < vs.length := (List.getElem?_eq_some_iff.mp h).1
  rw [List.getElem?_append_left (by simpa using hi), List.getElem?_map, h]
  rfl
theorem rep_start {N : List Str} {vs : List V} {ds : List Dt} (h : DtAll P w H vs ds) : Rep P w H (L2.start N vs) (startD N ds) ∧ ∀ b, ¬ ownA (L2.start N vs) (startD N ds) b := by
  have no : ∀ {i : Nat} {c : Cell}, (startD N ds)[i]? = some (some c) → c.own = true → False := fun {i c} e ho => by
    obtain ⟨d, _, rfl⟩ := startD_get e
    cases ho
  refine ⟨⟨?_, fun i d e => ?_, fun i c e ho => (no e ho).elim, fun i j c c' a e ho => (no e ho).elim⟩, fun b ⟨i, c, e, ho, _⟩ => no e ho⟩
  · unfold L2.start startD
    simp only [List.length_append, List.length_map, List.length_replicate, h.length]
  · obtain ⟨d', h1, h2⟩ := startD_get e
    cases h2
    obtain ⟨v, h3, h4⟩ := h.get h1
    exact ⟨v, start_get h3, h4⟩
theorem cal_of {x qual : Str} {st : Stmt} {f : Addr} {fd : FuncData} {N ps : List Str} {k n : Nat} {Fp : Pr} (F : Fun K x qual st f fd) (gx : mg x = some (.ref f)) (b : Binds K fd ps []) (S : FnScope N ps (defScope st)) (hn : ps.length = n)
    (len : ∀ ds R, Fp ds R → ds.length = n)
    (hbody : ∀ (cdv : Value) (A : Around) (outer : List Env) (s : Shared) (H : Hp) (E : XK), RoomG k (A.deeper (envOfC qual (defScope st) s.heap.objs.size f cdv)) →
      ∃ S, DSs (Cb P w K mg base N qual st f cdv A outer s H E) (defBody st) S ∧ ∀ ds R, Fp ds R → S (startD N ds) ⟨fun _ => R (.d .none), fun d _ => R d, fun _ => False, fun _ => False⟩) :
    Cal P w K mg base (k + 1) x n Fp := by
  refine ⟨len, f, fd, ps, gx, F.kp, b, fnG_of F S (fun vs H Q E h => ?_) fun cdv A outer s H vs Q E hr h => ?_⟩
  · obtain ⟨ds, R, h1, h2, _⟩ := h
    rw [h1.length, h2, hn]
  · obtain ⟨ds, R, hd, hl, hF, hQ⟩ := h
    obtain ⟨S, hS, hw⟩ := hbody cdv A outer s H E hr
    obtain ⟨rep, no⟩ := rep_start (P := P) (w := w) (N := N) hd
    refine ⟨_, hS.nox, startD N ds, _, rep, hw ds R hF, ⟨fun ρ' σ' H' q le rep' => ?_, fun d v ρ' σ' H' q le rep' hv => ?_, fun _ _ _ q => q.elim, fun _ _ _ q => q.elim⟩⟩
    · exact hQ _ _ H' q (fun b o e => le.le.keep b o e (no b)) le.le.trk Dv.non
    · exact hQ d v H' q (fun b o e => le.le.keep b o e (no b)) le.le.trk hv
end
end DL
end DLm
section DLn
set_option Elab.async false
set_option linter.all false
set_option maxRecDepth 100000
set_option maxHeartbeats 4000000
/-! DLn: enumerate of a tuple; zip; texts walked -/
namespace DL
open PySem PySem.Spec PyProof.Rows L2

/-- enumerate(v), whatever v's iterator is -/
theorem meets_enum1 {v : Value} {o : Obj} {HH : Heap → Prop} (B : Begins v o HH) :
    Meets (Builtin.«enumerate.__new__» ⟨[.type "enumerate", v], []⟩) (fun _ R s => HH s.heap ∧
      R (.ok (.ret (.ref (s.heap.push o).objs.size))) { s with heap := (s.heap.push o).push { cls := .type "enumerate", data := .fields #[.none, .bool false, .ref s.heap.objs.size, rawInt 0, .none, .none] } }) :=
  .of_wp fun prog w A R s h => by
    obtain ⟨hp, g, d, tk, os⟩ := s
    obtain ⟨h1, h⟩ := h
    have sb := sub_enumerate
    have go : ∀ {A' : Around} {E : Value → Shared → Prop} {Q : Value → Shared → Prop}, Q (.ref hp.objs.size) ⟨hp.push o, g, d, tk, os⟩ → wpAny (model prog w) A' (pyIter v) Q E ⟨hp, g, d, tk, os⟩ := fun q => B.iter prog w _ _ ⟨hp, g, d, tk, os⟩ _ h1 q
    wp_walk using go
    refine wpAny_stack_any fun st => wpAny_pure ?_
    split
    · rename_i c _ _ _ _ _
      cases (c == Value.type "enumerate") <;> (wp_walk using go; exact ⟨_, rfl, h⟩)
    · wp_walk using go
      exact ⟨_, rfl, h⟩
theorem call_enum1 {prog : Program} {w : World} {A : Around} {E : Value → Shared → Prop} {s : Shared} {v : Value} {o : Obj} {HH : Heap → Prop} {Q : Value → Shared → Prop} (B : Begins v o HH) (h1 : HH s.heap)
    (h : ∀ h', IsEnum h' (s.heap.objs.size + 1) s.heap.objs.size 0 .none → h'.get? s.heap.objs.size = some o → (∀ b o, s.heap.get? b = some o → h'.get? b = some o) → Q (.ref (s.heap.objs.size + 1)) { s with heap := h' }) :
    wpAny (model prog w) A (call (.type "enumerate") [v]) Q E s := by
  refine callType_new F.called_enumerate (by decide) (F.typeCall_enumerate_1 _) (F.newCall_enumerate_1 _) (fun obj => F.args_object_init_2 obj _) F.entry_enumerate_new (meets_enum1 B) ⟨h1, ?_⟩
  have z : (s.heap.push o).objs.size = s.heap.objs.size + 1 := Heap.size_push ..
  show _ ∧ _
  rw [z]
  have he : IsEnum ((s.heap.push o).push { cls := .type "enumerate", data := .fields #[.none, .bool false, .ref s.heap.objs.size, rawInt 0, .none, .none] }) (s.heap.objs.size + 1) s.heap.objs.size 0 .none := by
    have q := Heap.get?_push_size (s.heap.push o) (o := { cls := .type "enumerate", data := .fields #[.none, .bool false, .ref s.heap.objs.size, rawInt 0, .none, .none] }) rfl
    rw [z] at q
    exact q
  exact ⟨⟨_, he, rfl⟩, h _ he (Heap.get?_push_of_some _ (Heap.get?_push_size _ B.free)) fun b u e => Heap.get?_push_of_some _ (Heap.get?_push_of_some _ e)⟩
/-- the tuple at a, each item in a new pair with its number -/
def IteT (K : PySem.W.Frag) (a : Addr) : It :=
  ⟨fun i H => ∃ (xs : List V) (x : V), SqT K H a xs ∧ xs[i]? = some x,
   fun i H v H' => ∃ T x, v = .ref T ∧ H T = none ∧ H' = upd H T (.tup [.int (i : Nat), x]) ∧ ∀ xs, SqT K H a xs → xs[i]? = some x,
   fun i H => ∃ xs : List V, SqT K H a xs ∧ xs.length = i⟩
theorem turn_enumT {P : Program} {w : World} {K : PySem.W.Frag} {elts : List Expr} {kk : Nat} {tpos : Pos} (a e it : Addr) (hei : e ≠ it) (hai : a ≠ it) (hae : a ≠ e) :
    Turn P w K (.Tuple elts kk tpos) (IteT K a) [e, it] e (fun i h => (∃ old, IsEnum h e it ((i : Nat) : Int) old) ∧ h.IsTupleIter it a i) where
  mem := by simp
  obj := fun i h st b hb => by
    obtain ⟨⟨old, he⟩, o, ho, hc, hd⟩ := st
    rcases List.mem_cons.mp hb with z | z
    · rw [z]; exact ⟨_, he, fun v q => nomatch q⟩
    · rw [List.mem_singleton.mp z]; exact ⟨o, ho, fun v q => by rw [hd] at q; cases q⟩
  keep := fun i h h' st k => by
    obtain ⟨⟨old, he⟩, o, ho, hc, hd⟩ := st
    exact ⟨⟨old, k e (by simp) _ he⟩, o, k it (by simp) _ ho, hc, hd⟩
  item := by
    intro X hP hw hK hc i pins s σ H E I hf st hg
    subst hP hw hK
    obtain ⟨xs, x, hq, hx⟩ := hg
    obtain ⟨its, rv, p, hz⟩ := I.tuple hq
    obtain ⟨u, hu, ru⟩ := rv.get hx
    have hh : X.A.in1.handled = none := I.ok.hd hc
    have WT := WalksT.enumerateD (Draws.tuple (prog := X.prog) (w := X.w) hh it a hai its.toArray) e hei (by simp [hei, Ne.symm hae]) (by simp)
    have hi : i < its.toArray.size := by rw [List.size_toArray]; exact (List.getElem?_eq_some_iff.mp hu).1
    refine WT.item i s _ _ hi ⟨st.1, st.2, p⟩ fun T vals h' tk hPt hT hTup hMid hk => ⟨_, rfl, ?_⟩
    obtain ⟨t, y, hy, rfl⟩ := hPt
    refine WT.go elts kk tpos i T { s with heap := h', toks := tk } _ _ hMid fun h'' st' hk' => ?_
    have ey : y = u := by
      have hy : its.toArray[i]? = some y := hy
      rw [List.getElem?_toArray, hu] at hy
      exact (Option.some.inj hy).symm
    subst ey
    have nT : T ∉ [e, it] := WT.apart i T h' hMid
    have hT2 : IsTup h'' T #[.int (i : Nat) t, y] := by
      obtain ⟨o, ho, hc, hd⟩ := hTup
      exact ⟨o, hk' T o nT ho, hc, hd⟩
    have new : ObjOk X.prog X.w (upd H T (.tup [.int (i : Nat), x])) h'' T (.tup [.int (i : Nat), x]) := ⟨by show 2 ≤ sizeLine; decide, [.int (i : Nat) t, y], .cons ⟨_, rfl⟩ (.cons ru .nil), hT2⟩
    have I1 : Inv X pins σ (upd H T (.tup [.int (i : Nat), x])) { s with heap := h'', toks := tk } := I.turnedNew (ch := [e, it]) (fun b ob hb q => hk' b ob hb (hk b ob hb q)) hf hT new
    refine ⟨.ref T, _, I1, rfl, ⟨T, x, rfl, I.hok.fresh hT, rfl, fun ys hy => by rw [I.tuple_inj hy hq]; exact hx⟩, ⟨st'.1, st'.2.1⟩, fun b hb => ?_⟩
    rw [upd_ne (show b ≠ T from fun z => nT (by rw [← z]; exact hb))]
    exact (hf b hb).1
  done := by
    intro X hP hw hK hc i pins s σ H E I hf st hg
    subst hP hw hK
    obtain ⟨xs, hq, hx⟩ := hg
    obtain ⟨its, rv, p, hz⟩ := I.tuple hq
    have hh : X.A.in1.handled = none := I.ok.hd hc
    have WT := WalksT.enumerateD (Draws.tuple (prog := X.prog) (w := X.w) hh it a hai its.toArray) e hei (by simp [hei, Ne.symm hae]) (by simp)
    have hi : i = its.toArray.size := by rw [List.size_toArray, ← rv.length]; exact hx.symm
    subst hi
    exact WT.done s _ _ ⟨st.1, st.2, p⟩ fun h' tk hk => ⟨rfl, I.turnedL (ch := [e, it]) hk hf⟩
  self := fun A i s Q E st h => let ⟨⟨_, he⟩, _⟩ := st; wpAny_pyIter_enum he h

section
variable {X : Cx} {a b e : Expr} {E : Et} {pos : Pos} {P : Program} {w : World} {K : PySem.W.Frag} {H H' : Hp} {σ : L2.St} {ρ : Sv}
/-- the pairs of enumerate, of zip -/
def enumD (l : List PyData) : List PyData := l.zipIdx.map fun p => .tuple [.int ((p.2 : Nat) : Int), p.1]
def zipD (l m : List PyData) : List PyData := (l.zip m).map fun p => .tuple [p.1, p.2]
theorem enumD_get {l : List PyData} {i : Nat} {d : PyData} (h : (enumD l)[i]? = some d) : ∃ y, l[i]? = some y ∧ d = .tuple [.int (i : Nat), y] := by
  unfold enumD at h
  rw [List.getElem?_map, List.getElem?_zipIdx] at h
  cases q : l[i]? with
  | none => rw [q] at h; cases h
  | some y =>
    rw [q] at h
    refine ⟨y, rfl, ?_⟩
    have h' := (Option.some.inj h).symm
    simpa using h'
theorem enumD_len (l : List PyData) : (enumD l).length = l.length := by unfold enumD; rw [List.length_map, List.length_zipIdx]
theorem pair_new {p : Addr} {v u : V} {d y : PyData} (hp : H p = none) (h1 : Dv H v d) (h2 : Dv H u y) : Dv (upd H p (.tup [v, u])) (.ref p) (.tuple [d, y]) :=
  .tup upd_same (.cons (h1.keep (kp_laid hp)) (.cons (h2.keep (kp_laid hp)) .nil))
theorem laid_all {p : Addr} {o : HO} (hp : H p = none) : (∀ b u, H b = some u → upd H p o b = some u) ∧ ∀ b, upd H p o b = none → H b = none :=
  ⟨fun b u e => by rw [upd_ne (ne_of_none e hp)]; exact e, fun b e => by
    by_cases hb : b = p
    · rw [hb]; exact hp
    · rw [upd_ne hb] at e; exact e⟩
theorem ite_d {p : Addr} {xs : List V} {l : List PyData} (e : H p = some (.tup xs)) (h : DvAll H xs l) : ItD (IteT K p) H (enumD l) where
  go := fun i d H' hi k => by
    obtain ⟨y, hy, rfl⟩ := enumD_get hi
    obtain ⟨v, h1, h2⟩ := h.get hy
    have s : SqT K H' p xs := .inl (.inl (k.tup _ _ e))
    refine ⟨⟨xs, v, s, h1⟩, fun x H'' ⟨T, x', e1, e2, e3, h3⟩ => ?_⟩
    subst e1 e3
    rw [show x' = v from Option.some.inj ((h3 xs s).symm.trans h1)]
    exact ⟨(laid_all e2).1, (laid_all e2).2, pair_new e2 (.int _) (h2.keep k)⟩
  stop := fun H' k => ⟨xs, .inl (.inl (k.tup _ _ e)), by rw [enumD_len, h.length]⟩
def wEnum (E : Et) : Wt := fun ρ Q => E ρ fun x ρ1 => ∃ l, x = .dat (.d (.tuple l)) ∧ Q (enumD l) ρ1
theorem di_enum {x : Str} {p tpos : Pos} {elts : List Expr} {kk : Nat} (hx : x = ("enumerate" : Str)) (hg : Gl X x) (hm : X.mg "enumerate" = none) (h : DE X e E) (hs : starEach [e] X.env = [(false, eval e X.env)] := by rfl) :
    DI X (.Tuple elts kk tpos) (.Call (.Name x p) [e] [] pos) (wEnum E) := by
  subst hx
  refine ⟨fun pins s σ H Rr I ⟨ρ, R, rep, hE, q⟩ => ?_⟩
  refine Call_ (ld_blt I hg hm boot_enumerate (PyProof.Rows.callWith_type1 (one_arg h I ⟨ρ, _, rep, hE, fun z H1 d => d⟩ (fun v s1 z H1 I1 r1 ⟨x, ρ1, ⟨l, ex, hR⟩, le1, rep1, x1⟩ => ?_) hs) hs rfl))
  subst ex
  obtain ⟨a, xs, rfl, ha, hd⟩ := dd_tup rep1 x1 rfl
  cases r1
  obtain ⟨its, rv, pt, hz⟩ := I1.tuple (.inl (.inl ha))
  have la : a < s1.heap.objs.size := pt.lt
  refine call_enum1 (begins_tuple a its.toArray) pt fun h' he hit hk => wpAny_pyIter_enum he ?_
  have I2 : Inv X pins σ H1 { s1 with heap := h' } := I1.kept (t' := s1.toks) hk
  refine ⟨s1.heap.objs.size + 1, [s1.heap.objs.size + 1, s1.heap.objs.size], _, _, H1, rfl, I2, turn_enumT a (s1.heap.objs.size + 1) s1.heap.objs.size (Nat.succ_ne_self _) (Nat.ne_of_lt la) (Nat.ne_of_lt (Nat.lt_succ_of_lt la)), ⟨⟨.none, he⟩, _, hit, rfl, rfl⟩, fun b hb => ?_,
    q _ ρ1 H1 _ hR le1 rep1 (by rw [enumD_len, ← hd.length]; exact hz) (ite_d ha hd)⟩
  have ge : s1.heap.objs.size ≤ b := by
    rcases List.mem_cons.mp hb with z | z
    · rw [z]; exact Nat.le_add_right _ _
    · rw [List.mem_singleton.mp z]; exact Nat.le_refl _
  exact I1.fpOk ge (I1.hok.fresh ge)
/-! ### zip of two lists -/
theorem zipD_get {l m : List PyData} {i : Nat} {d : PyData} (h : (zipD l m)[i]? = some d) : ∃ y z, l[i]? = some y ∧ m[i]? = some z ∧ d = .tuple [y, z] := by
  unfold zipD at h
  rw [List.getElem?_map] at h
  obtain ⟨⟨y, z⟩, h1, h2⟩ := Option.map_eq_some_iff.mp h
  rw [List.getElem?_zip_eq_some] at h1
  exact ⟨y, z, h1.1, h1.2, h2.symm⟩
theorem itz_d {K : PySem.W.Frag} {p p2 : Addr} {xs ys : List V} {l m : List PyData} (e : Rd H p (.lst xs)) (e2 : Rd H p2 (.lst ys)) (st : ∀ H', Kp H H' → Rd H' p (.lst xs) ∧ Rd H' p2 (.lst ys)) (h : DvAll H xs l) (h2 : DvAll H ys m) : ItD (Itz K p p2) H (zipD l m) where
  go := fun i d H' hi k => by
    obtain ⟨y, z, hy, hz, rfl⟩ := zipD_get hi
    obtain ⟨v, g1, g2⟩ := h.get hy
    obtain ⟨u, g3, g4⟩ := h2.get hz
    obtain ⟨s1, s2⟩ := st H' k
    refine ⟨⟨xs, ys, v, u, .inl s1, .inl s2, g1, g3⟩, fun x H'' ⟨T, x', y', e1, e2, e3, h3, h4⟩ => ?_⟩
    subst e1 e3
    rw [show x' = v from Option.some.inj ((h3 xs (.inl s1)).symm.trans g1), show y' = u from Option.some.inj ((h4 ys (.inl s2)).symm.trans g3)]
    exact ⟨(laid_all e2).1, (laid_all e2).2, pair_new e2 (g2.keep k) (g4.keep k)⟩
  stop := fun H' k => by
    obtain ⟨s1, s2⟩ := st H' k
    refine ⟨xs, ys, .inl s1, .inl s2, ?_⟩
    unfold zipD
    rw [List.length_map, List.length_zip, h.length, h2.length]
    omega
def wZip (A : At) : Wt := fun ρ Q => A ρ fun xs ρ1 => ∃ l m, dats xs = some [.list l, .list m] ∧ Q (zipD l m) ρ1
theorem di_zip {x : Str} {p tpos : Pos} {elts : List Expr} {kk : Nat} {A : At} (hx : x = ("zip" : Str)) (hg : Gl X x) (hm : X.mg "zip" = none) (ha : DA X [a, b] A) (hs : starEach [a, b] X.env = (false, eval a X.env) :: starEach [b] X.env := by rfl)
    (hpl : (backTo pos (starEach [b] X.env)).any (·.1) = false := by rfl) : DI X (.Tuple elts kk tpos) (.Call (.Name x p) [a, b] [] pos) (wZip A) := by
  subst hx
  have hsz : PA X [a, b] (fun σ H Q => rdA X.prog X.w A σ H fun vs H1 => SzH H1 → Q vs H1) := ⟨fun ps pins s σ H Q I hq => thn (ha.run ps pins s σ H _ I hq) fun us s1 ⟨vs, H1, I1, r1, q⟩ => ⟨vs, H1, I1, r1, q fun p xs hx => by
    rcases hx with e | e
    · exact (Rd.lstI I1 e).1
    · exact size_tup I1 e⟩⟩
  refine PI.imp (pi_zip hg hm hsz hs hpl) fun pins s σ H Rr I ⟨ρ, R, rep, hE, q⟩ => ⟨ρ, _, rep, hE, fun vs H2 xs ρ2 ⟨l, m, ex, hR⟩ le rep2 hx sz => ?_⟩
  have hv := (dats_all ex).dv hx
  cases hv with
  | cons hv t =>
    cases t with
    | cons hu t =>
      cases t
      cases hv with
      | lst e1 h1 =>
        cases hu with
        | lst e2 h2 =>
          refine ⟨_, _, _, _, rfl, .inl (.inr ⟨_, e1⟩), .inl (.inr ⟨_, e2⟩), q _ ρ2 H2 _ hR le rep2 ?_ (itz_d (.inr ⟨_, e1⟩) (.inr ⟨_, e2⟩) (fun H' k => ⟨.inr ⟨_, k.frz _ _ _ e1⟩, .inr ⟨_, k.frz _ _ _ e2⟩⟩) h1 h2)⟩
          have z1 := sz _ _ (.inl (.inr ⟨_, e1⟩))
          unfold zipD
          rw [List.length_map, List.length_zip, ← h1.length]
          omega
/-! ### a text, sign by sign -/
def signsD (z : Str) : List PyData := z.cps.toList.map fun c => .str ⟨#[c]⟩
theorem its_d (z : Str) : ItD (Its z) H (signsD z) where
  go := fun i d H' hi k => by
    unfold signsD at hi
    rw [List.getElem?_map] at hi
    obtain ⟨c, h1, rfl⟩ := Option.map_eq_some_iff.mp hi
    rw [Array.getElem?_toList] at h1
    refine ⟨(Array.getElem?_eq_some_iff.mp h1).1, fun x H'' ⟨e1, c', h2, e2⟩ => ?_⟩
    subst e1 e2
    rw [h1] at h2
    cases h2
    exact ⟨fun _ _ q => q, fun _ q => q, .str _⟩
  stop := fun H' k => by
    unfold signsD
    rw [List.length_map, Array.length_toList]
    exact Nat.le_refl _
def wStr (E : Et) : Wt := fun ρ Q => E ρ fun x ρ1 => ∃ z, x = .dat (.d (.str z)) ∧ z.cps.size ≤ 1000 ∧ Q (signsD z) ρ1
theorem di_str {tg : Expr} (h : DE X e E) : DI X tg e (wStr E) :=
  PI.imp (pi_str h) fun pins s σ H Rr I ⟨ρ, R, rep, hE, q⟩ => ⟨ρ, _, rep, hE, fun z H1 ⟨x, ρ1, ⟨t, ex, hz, hR⟩, le1, rep1, x1⟩ => by
    subst ex
    have x1 : Dv H1 z (.str t) := x1
    cases x1
    exact ⟨t, rfl, q _ ρ1 H1 _ hR le1 rep1 (by unfold signsD; rw [List.length_map, Array.length_toList]; exact small_line (by omega)) (its_d t)⟩⟩
end
end DL
end DLn
section DLo
set_option Elab.async false
set_option linter.all false
set_option maxRecDepth 100000
set_option maxHeartbeats 1000000
/-! DLo: name op= e, items of own lists stored, several targets at once -/
namespace DL
open PySem PySem.Spec PyProof.Rows L2

section
variable {X : Cx} {a b c e o : Expr} {es : List Expr} {E Ea Eb Ec Eo Ei : Et} {pos : Pos} {P : Program} {w : World} {K : PySem.W.Frag} {H H' Hs : Hp} {σ : L2.St} {ρ ρ' : Sv}
def intAt (ρ : Sv) (i : Nat) : Option Int := match ρ[i]? with
  | some (some (.dat (.d (.int n)))) => some n
  | _ => none
theorem intAt_some {i : Nat} {n : Int} (h : intAt ρ i = some n) : ρ[i]? = some (some (.dat (.d (.int n)))) := by
  unfold intAt at h
  split at h
  · rename_i m e
    cases h
    exact e
  · cases h
def sAug (i : Nat) (f : Int → Int → Int) (E : Et) : Stt := fun ρ R => ∃ m, intAt ρ i = some m ∧ E ρ fun x ρ1 => ∃ n, ddOf ρ1 x = some (.int n) ∧ i < ρ1.length ∧ R.nx (ρ1.set i (some (.dat (.d (.int (f m n))))))
theorem ds_aug {i : Nat} {x : Str} {pos' : Pos} {op : Operator} {f : Int → Int → Int} (ho : PIp X op (ipI f)) (hN : X.N.Nodup) (hi : X.N[i]? = some x) (hx : Loc X.env.scope x) (he : DE X e E)
    (hf : X.fn x = true ∨ X.env.scope.names.lookup x = some .local := by first | exact .inl rfl | exact .inr rfl | assumption) (h0 : i ≠ 0 := by decide) : DS X (.AugAssign (.Name x pos') op e pos) (sAug i f E) :=
  PS.imp (ps_aug hN hi hx he ho hf) fun D σ H ⟨ρ, R, rep, ⟨m, hm, hE⟩, t⟩ => by
    obtain ⟨v, h1, h2⟩ := rep.dat i _ (intAt_some hm)
    cases h2
    refine ⟨_, h1, ρ, _, rep, hE, fun z H2 ⟨x, ρ2, ⟨n, hn, hl, q⟩, le, rep2, hx⟩ => ⟨m, n, rfl, dd_int rep2 hx hn, ?_⟩⟩
    obtain ⟨r3, l3⟩ := store_d (d := .int (f m n)) rep2 hl (.int _)
    exact t.nx _ _ H2 q ⟨le.trans l3, set_z h0⟩ r3
theorem ds_augAdd {i : Nat} {x : Str} {pos' : Pos} (hN : X.N.Nodup) (hi : X.N[i]? = some x) (hx : Loc X.env.scope x) (he : DE X e E)
    (hf : X.fn x = true ∨ X.env.scope.names.lookup x = some .local := by first | exact .inl rfl | exact .inr rfl | assumption) (h0 : i ≠ 0 := by decide) : DS X (.AugAssign (.Name x pos') .Add e pos) (sAug i (fun m n => m + n) E) := ds_aug ip_add hN hi hx he hf h0

/-! ### xs[i] = e, xs[i] += e, xs an own list -/
def sIx (E Eo Ei : Et) : Stt := fun ρ R => E ρ fun x ρ1 => ∃ d, dats [x] = some [d] ∧ Eo ρ1 fun y ρ2 => ∃ i l, ownL ρ2 y = some (i, l) ∧ Ei ρ2 fun z ρ3 => ∃ (j : Nat) (l3 : List PyData), ddOf ρ3 z = some (.int j) ∧ lsAt ρ3 i = some (.list l3) ∧ j < l3.length ∧ R.nx (ρ3.set i (some (.lst (l3.set j d))))
theorem ixN_of {n j : Nat} (h : j < n) : ixN n (j : Int) = some j := by
  unfold ixN
  rw [if_pos (by omega), if_pos (by omega), Int.toNat_natCast]
theorem ds_ix {i : Expr} {tpos : Pos} (he : DE X e E) (ho : DE X o Eo) (hi : DE X i Ei) (hs : swapsWithSole [.Subscript o i tpos] e pos.line X.env = pure false := by rfl) (hw : swappedStores [.Subscript o i tpos] e X.env = pure none := by rfl)
    (h1 : (assignEach [.Subscript o i tpos] X.env).map (·.2) = [assign (.Subscript o i tpos) X.env] := by rfl)
    (ha : ∀ v, assign (.Subscript o i tpos) X.env v = (do let ov ← holding [v] (eval o X.env); let iv ← holding [v, ov] (eval i X.env); standAt tpos; holding [v, ov, iv] (setItem ov iv v); release [v, ov, iv] []) := by intro _; rfl) :
    DS X (.Assign [.Subscript o i tpos] e pos) (sIx E Eo Ei) :=
  PS.imp (ps_asg he (pg_sub ho hi set_list ha) hs hw h1) fun D σ H ⟨ρ, R, rep, hE, t⟩ => by
    refine ⟨ρ, _, rep, hE, fun z1 H1 ⟨x, ρ1, ⟨d, hd, k1⟩, le1, rep1, x1⟩ => ⟨ρ1, _, rep1, k1, fun z2 H2 ⟨y, ρ2, ⟨k, l, hk, k2⟩, le2, rep2, x2⟩ => ⟨ρ2, _, rep2, k2, fun z3 H3 ⟨z, ρ3, ⟨j, l3, hj, hl, hlt, k3⟩, le3, rep3, x3⟩ => ?_⟩⟩⟩
    obtain ⟨rfl, _⟩ := ownL_some hk
    obtain ⟨l4, e4, hk3⟩ := lsAt_some hl
    cases e4
    obtain ⟨p, hp, xs, hxs, hdx⟩ := rep3.own k _ hk3 rfl
    have x2 : σ[k]? = some (some z2) := x2
    rw [hp] at x2
    cases x2
    have dv : Dv H3 z1 d := by
      have q := (dats_all hd).dv (XvAll.one' ((x1.keep rep1 le2).keep rep2 le3))
      cases q with | cons q _ => exact q
    have hu : (∃ xs, H3 p = some (.lst xs)) ∨ ∃ φ, H3 p = some (.ext φ) := .inl ⟨_, hxs⟩
    refine ⟨p, xs, j, j, rfl, dd_int rep3 x3 hj, hxs, ixN_of (by rw [hdx.length]; exact hlt), t.nx _ σ _ k3 (.of (((le1.trans le2).trans le3).trans (Le.put hk3 rfl rfl hp (by rw [hxs]; simp)))) (rep3.put hk3 rfl rfl hp hu ⟨_, upd_same, (hdx.put j dv).keep (kp_put hu)⟩)⟩
/-- an item of a list, by values -/
def rGetL (K : PySem.W.Frag) : V → V → Hp → VK → Prop := fun o i H Q => ∃ p xs j v, o = .ref p ∧ i = .int (j : Nat) ∧ j < 1000000 ∧ SqL K H p xs ∧ xs[j]? = some v ∧ Q v H
theorem pget_list : PGet X (rGetL X.K) := by
  intro pins s σ H o i ov iv Q I ro ri h
  obtain ⟨p, xs, j, v, rfl, rfl, hj, hS, hv, q⟩ := h
  obtain rfl : ov = .ref p := ro
  obtain ⟨t, rfl⟩ := ri
  obtain ⟨its, rv, pl, hz⟩ := I.list hS
  obtain ⟨u, hu, ru⟩ := rv.get hv
  exact wpAny_getItem_list pl.isList (by omega) (by omega) (by rw [Int.toNat_natCast, List.getElem?_toArray]; exact hu) ⟨v, H, I, ru, q⟩
def sIxAug (Eo Ei E : Et) (f : Int → Int → Int) : Stt := fun ρ R => Eo ρ fun y ρ1 => ∃ i l, ownL ρ1 y = some (i, l) ∧ Ei ρ1 fun z ρ2 => ∃ (j : Nat) (l2 : List PyData) (m : Int), ddOf ρ2 z = some (.int j) ∧ j < 1000000 ∧ lsAt ρ2 i = some (.list l2) ∧ l2[j]? = some (.int m) ∧
  E ρ2 fun x ρ3 => ∃ (n : Int) (l3 : List PyData), ddOf ρ3 x = some (.int n) ∧ lsAt ρ3 i = some (.list l3) ∧ j < l3.length ∧ R.nx (ρ3.set i (some (.lst (l3.set j (.int (f m n))))))
theorem ds_ixAug {i : Expr} {tpos : Pos} {op : Operator} {f : Int → Int → Int} (hp : PIp X op (ipI f)) (ho : DE X o Eo) (hi : DE X i Ei) (he : DE X e E)
    (ha : ∀ ov iv new, augStore i ov iv new = (do holding [new, ov, iv] (setItem ov iv new); release [new, ov, iv] []; pure .next) := by intros; rfl) : DS X (.AugAssign (.Subscript o i tpos) op e pos) (sIxAug Eo Ei E f) :=
  PS.imp (ps_augS ho hi pget_list he hp set_list ha) fun D σ H ⟨ρ, R, rep, hE, t⟩ => by
    refine ⟨ρ, _, rep, hE, fun z1 H1 ⟨y, ρ1, ⟨k, l, hk, k1⟩, le1, rep1, x1⟩ => ⟨ρ1, _, rep1, k1, fun z2 H2 ⟨z, ρ2, ⟨j, l2, m, hj, hjs, hl, hm, k2⟩, le2, rep2, x2⟩ => ?_⟩⟩
    obtain ⟨rfl, _⟩ := ownL_some hk
    obtain ⟨l4, e4, hk2⟩ := lsAt_some hl
    cases e4
    obtain ⟨p, hp, xs, hxs, hdx⟩ := rep2.own k _ hk2 rfl
    have x1 : σ[k]? = some (some z1) := x1
    rw [hp] at x1
    cases x1
    obtain ⟨v, hv, hdv⟩ := hdx.get hm
    cases hdv
    refine ⟨p, xs, j, _, rfl, dd_int rep2 x2 hj, hjs, .inl (.inl hxs), hv, ρ2, _, rep2, k2, fun z3 H3 ⟨x, ρ3, ⟨n, l3, hn, hl3, hlt, k3⟩, le3, rep3, x3⟩ => ?_⟩
    obtain ⟨l5, e5, hk3⟩ := lsAt_some hl3
    cases e5
    obtain ⟨p', hp', xs3, hxs3, hdx3⟩ := rep3.own k _ hk3 rfl
    rw [hp] at hp'
    cases hp'
    have hu : (∃ xs, H3 p = some (.lst xs)) ∨ ∃ φ, H3 p = some (.ext φ) := .inl ⟨_, hxs3⟩
    exact ⟨m, n, rfl, dd_int rep3 x3 hn, p, xs3, j, j, rfl, dd_int rep2 x2 hj, hxs3, ixN_of (by rw [hdx3.length]; exact hlt),
      t.nx _ σ _ k3 (.of (((le1.trans le2).trans le3).trans (Le.put hk3 rfl rfl hp (by rw [hxs3]; simp)))) (rep3.put hk3 rfl rfl hp hu ⟨_, upd_same, (hdx3.put j (.int _)).keep (kp_put hu)⟩)⟩

/-! ### a, b = x, y; a, b, c = x, y, z -/
theorem XvAll.keep {vs : List V} {xs : List Dx} (R : Rep P w H σ ρ) (L : Le (ownA σ ρ) H (ownA σ ρ') H') (h : XvAll P w Hs H σ ρ vs xs) : XvAll P w Hs H' σ ρ' vs xs := by
  induction h with
  | nil => exact .nil
  | cons a _ f ih => exact .cons (a.keep R L) ih f
/-- the others behind a store -/
theorem XvAll.stored {i : Nat} {v : V} {x : Dx} {c : Cell} (hc : asCell x = some c) (hi : i < ρ.length) (hl : σ.length = ρ.length) (no : ∀ y k, x = .own k → y = ()) {vs : List V} {xs : List Dx} (f : ∀ c a, x = .new c → v = .ref a → Apt a vs xs) (hnd : x = .new c ∨ ∃ d, x = .dat d)
    (hcs : ∀ y ∈ xs, ∃ c, asCell y = some c) (h : XvAll P w Hs H σ ρ vs xs) : XvAll P w Hs H (σ.set i (some v)) (ρ.set i (some c)) vs xs := by
  induction h with
  | nil => exact .nil
  | cons hx ht g ih =>
    rename_i u us y ys
    refine .cons ?_ (ih (fun c a e1 e2 => (f c a e1 e2).2) fun z hz => hcs z (List.mem_cons_of_mem _ hz)) g
    cases y with
    | dat d => exact hx
    | own k =>
      obtain ⟨c', e⟩ := hcs (.own k) List.mem_cons_self
      cases e
    | new c' =>
      obtain ⟨b, e, ho, hw, hs, hn⟩ := hx
      refine ⟨b, e, ho, hw, hs, fun ⟨j, c2, g1, g2, g3⟩ => ?_⟩
      rcases set_get g1 with ⟨rfl, e1⟩ | ⟨hj, e1⟩
      · cases e1
        rcases set_get g3 with ⟨_, e3⟩ | ⟨hj, _⟩
        · cases e3
          rcases hnd with e4 | ⟨d, e4⟩
          · exact (f c b e4 rfl).1 c' rfl e
          · subst e4
            cases hc
            cases g2
        · exact absurd rfl hj
      · rw [List.getElem?_set_ne (Ne.symm hj)] at g3
        exact hn ⟨j, c2, e1, g2, g3⟩
/-- the outcomes go into the slots, one by one -/
def putAll : List Nat → List Dx → Sv → Option Sv
  | [], [], ρ => some ρ
  | i :: is, x :: xs, ρ => match asCell x with
    | some c => if i < ρ.length then putAll is xs (ρ.set i (some c)) else none
    | none => none
  | _, _, _ => none
def setAll : List Nat → List V → L2.St → L2.St
  | i :: is, v :: vs, σ => setAll is vs (σ.set i (some v))
  | _, _, σ => σ
theorem putAll_cells : ∀ {is : List Nat} {xs : List Dx} {ρ ρ2 : Sv}, putAll is xs ρ = some ρ2 → ∀ y ∈ xs, ∃ c, asCell y = some c
  | [], [], _, _, _, y, hy => by simp at hy
  | i :: is, x :: xs, ρ, ρ2, h, y, hy => by
    unfold putAll at h
    split at h
    · rename_i c hc
      split at h
      · rcases List.mem_cons.mp hy with rfl | hy
        · exact ⟨c, hc⟩
        · exact putAll_cells h y hy
      · cases h
    · cases h
  | [], _ :: _, _, _, h, _, _ => by simp [putAll] at h
  | _ :: _, [], _, _, h, _, _ => by simp [putAll] at h
theorem putAll_ok {H0 : Hp} {M : Addr → Prop} : ∀ {is : List Nat} {xs : List Dx} {vs : List V} {σ : L2.St} {ρ ρ2 : Sv}, Rep P w H σ ρ → Le M H0 (ownA σ ρ) H → XvAll P w H0 H σ ρ vs xs → putAll is xs ρ = some ρ2 →
    Rep P w H (setAll is vs σ) ρ2 ∧ Le M H0 (ownA (setAll is vs σ) ρ2) H
  | [], [], vs, σ, ρ, ρ2, R, L, hx, h => by
    cases hx
    cases h
    exact ⟨R, L⟩
  | i :: is, x :: xs, vs, σ, ρ, ρ2, R, L, hx, h => by
    have hcs := putAll_cells h
    unfold putAll at h
    split at h
    · rename_i c hc
      split at h
      · rename_i hi
        cases hx with
        | cons hx ht f =>
          have hnd : x = .new c ∨ ∃ d, x = .dat d := by
            cases x with
            | dat d => exact .inr ⟨d, rfl⟩
            | own k => cases hc
            | new c' => cases hc; exact .inl rfl
          exact putAll_ok (is := is) (xs := xs) (R.store hi hx hc) (Le.store R L hx hc) (ht.stored hc hi R.len (fun _ _ _ => rfl) f hnd fun y hy => hcs y (List.mem_cons_of_mem _ hy)) h
      · cases h
    · cases h
  | [], _ :: _, _, _, _, _, _, _, _, h => by simp [putAll] at h
  | _ :: _, [], _, _, _, _, _, _, _, h => by simp [putAll] at h
def sPar (is : List Nat) (A : At) : Stt := fun ρ R => A ρ fun xs ρ1 => ∃ ρ2, putAll is xs ρ1 = some ρ2 ∧ R.nx ρ2
theorem putAll_len {H0 : Hp} : ∀ {is : List Nat} {xs : List Dx} {vs : List V} {σ : L2.St} {ρ0 ρ ρ2 : Sv}, XvAll P w H0 H σ ρ0 vs xs → putAll is xs ρ = some ρ2 → vs.length = is.length
  | [], [], vs, σ, _, ρ, ρ2, hx, h => by cases hx; rfl
  | i :: is, x :: xs, vs, σ, _, ρ, ρ2, hx, h => by
    unfold putAll at h
    split at h
    · split at h
      · cases hx with
        | cons hx ht f => rw [List.length_cons, List.length_cons, putAll_len ht h]
      · cases h
    · cases h
  | [], _ :: _, _, _, _, _, _, _, h => by simp [putAll] at h
  | _ :: _, [], _, _, _, _, _, _, h => by simp [putAll] at h
theorem setAll_z : ∀ (is : List Nat) (vs : List V) (σ : L2.St), 0 ∉ is → (setAll is vs σ)[0]? = σ[0]?
  | [], vs, σ, _ => by cases vs <;> rfl
  | i :: is, [], σ, _ => by cases is <;> rfl
  | i :: is, v :: vs, σ, h => by
    rw [List.mem_cons, not_or] at h
    show (setAll is vs (σ.set i (some v)))[0]? = _
    rw [setAll_z is vs _ h.2, set_z (Ne.symm h.1)]
theorem ds_par2 {i j : Nat} {x y : Str} {A : At} {px py pt : Pos} {kt k2 pt2} (hc : X.calm = true) (hN : X.N.Nodup) (hi : X.N[i]? = some x) (hj : X.N[j]? = some y) (hij : i ≠ j) (hx : X.env.scope.names.lookup x = some .local) (hy : X.env.scope.names.lookup y = some .local)
    (ha : DA X [a, b] A) (hw : swappedStores [.Tuple [.Name x px, .Name y py] kt pt] (.Tuple [a, b] k2 pt2) X.env = pure (some [x, y])) (hs : swapsWithSole [.Tuple [.Name x px, .Name y py] kt pt] (.Tuple [a, b] k2 pt2) pos.line X.env = pure false := by rfl) (h0 : 0 ∉ [i, j] := by decide) :
    DS X (.Assign [.Tuple [.Name x px, .Name y py] kt pt] (.Tuple [a, b] k2 pt2) pos) (sPar [i, j] A) :=
  PS.imp (ps_par hc hN hi hj hij hx hy ha hw hs) fun D σ H ⟨ρ, R, rep, hA, t⟩ => ⟨ρ, _, rep, hA, fun vs H2 xs ρ2 ⟨ρ3, hp, hR⟩ le rep2 hx => by
    have hl := putAll_len hx hp
    match vs, hl with
    | [v, u], _ =>
      obtain ⟨r3, l3⟩ := putAll_ok rep2 le hx hp
      exact ⟨v, u, rfl, t.nx _ _ H2 hR ⟨l3, setAll_z [i, j] [v, u] σ h0⟩ r3⟩⟩
theorem ds_par3 {i j l : Nat} {x y z : Str} {A : At} {px py pz pt : Pos} {kt k2 pt2} (hc : X.calm = true) (hN : X.N.Nodup) (hi : X.N[i]? = some x) (hj : X.N[j]? = some y) (hl : X.N[l]? = some z) (hij : i ≠ j) (hil : i ≠ l) (hjl : j ≠ l)
    (hx : X.env.scope.names.lookup x = some .local) (hy : X.env.scope.names.lookup y = some .local) (hz : X.env.scope.names.lookup z = some .local) (ha : DA X [a, b, c] A)
    (hw : swappedStores [.Tuple [.Name x px, .Name y py, .Name z pz] kt pt] (.Tuple [a, b, c] k2 pt2) X.env = pure (some [x, y, z])) (hs : swapsWithSole [.Tuple [.Name x px, .Name y py, .Name z pz] kt pt] (.Tuple [a, b, c] k2 pt2) pos.line X.env = pure false := by rfl) (h0 : 0 ∉ [i, j, l] := by decide) :
    DS X (.Assign [.Tuple [.Name x px, .Name y py, .Name z pz] kt pt] (.Tuple [a, b, c] k2 pt2) pos) (sPar [i, j, l] A) :=
  PS.imp (ps_par3 hc hN hi hj hl hij hil hjl hx hy hz ha hw hs) fun D σ H ⟨ρ, R, rep, hA, t⟩ => ⟨ρ, _, rep, hA, fun vs H2 xs ρ2 ⟨ρ3, hp, hR⟩ le rep2 hx => by
    have hlen := putAll_len hx hp
    match vs, hlen with
    | [v, u, q], _ =>
      obtain ⟨r3, l3⟩ := putAll_ok rep2 le hx hp
      exact ⟨v, u, q, rfl, t.nx _ _ H2 hR ⟨l3, setAll_z [i, j, l] [v, u, q] σ h0⟩ r3⟩⟩
/-- the same where the stores are not swapped: the tuple is made and taken apart -/
theorem ds_parT {is : List Nat} {A : At} {ts vs' : List Expr} {pt : Pos} {kt k2 pt2} {g : TGs} (hc : X.calm = true) (ha : DA X vs' A) (hg : PGs X ts g) (hgs : ∀ vs σ H Q, vs.length = is.length → Q (setAll is vs σ) H → g vs σ H Q)
    (hn : (assignEach ts X.env).length = is.length := by rfl) (hst : (assignEach ts X.env).findIdx? (·.1) = none := by rfl)
    (hs : swapsWithSole [.Tuple ts kt pt] (.Tuple vs' k2 pt2) pos.line X.env = pure false := by rfl) (hw : swappedStores [.Tuple ts kt pt] (.Tuple vs' k2 pt2) X.env = pure none := by rfl)
    (h1 : (assignEach [.Tuple ts kt pt] X.env).map (·.2) = [assign (.Tuple ts kt pt) X.env] := by rfl) (h30 : is.length ≤ 30 := by decide) (h0 : 0 ∉ is := by decide) :
    DS X (.Assign [.Tuple ts kt pt] (.Tuple vs' k2 pt2) pos) (sPar is A) :=
  PS.imp (ps_asg (pe_tup ha) (pg_tup hc hg hn hst) hs hw h1) fun D σ H ⟨ρ, R, rep, hA, t⟩ => ⟨ρ, _, rep, hA, fun vs H2 xs ρ2 ⟨ρ3, hp, hR⟩ le rep2 hx => by
    have hlen := putAll_len hx hp
    refine ⟨by rw [hlen]; exact small30 h30, fun p hpn => ⟨p, vs, rfl, .inl (.inl upd_same), hlen, hgs vs σ _ _ hlen ?_⟩⟩
    have lel := Le.laid (M := ownA σ ρ2) (o := .tup vs) hpn
    obtain ⟨r3, l3⟩ := putAll_ok (rep2.laid hpn) (le.trans lel) (hx.keep rep2 lel) hp
    exact t.nx _ _ _ hR ⟨l3, setAll_z is vs σ h0⟩ r3⟩
end
end DL
end DLo
section DLp
set_option Elab.async false
set_option linter.all false
set_option maxRecDepth 100000
set_option maxHeartbeats 1000000
/-! DLp: loops and comprehensions at the level of data -/
namespace DL
open PySem PySem.Spec PyProof.Rows L2

section
variable {α β : Type} {G : Gt} {T : Tt} {E : Et} {S : Stt} {vs : List Nat}
/-- a for by what holds behind i turns -/
theorem forW_inv {enc : α → PyData} (I : Nat → Sv → Prop) {R : DEnds} : ∀ (xs : List α) (k : Nat) (ρ : Sv), I k ρ →
    (∀ (i : Nat) (x : α) (ρ : Sv), xs[i]? = some x → I (k + i) ρ → ∀ nx : Sv → Prop, (∀ ρ', I (k + i + 1) ρ' → nx ρ') → G (enc x) ρ fun ρ1 => S ρ1 ⟨nx, R.rt, R.nx, nx⟩) → (∀ ρ, I (k + xs.length) ρ → R.nx ρ) → forW G S (xs.map enc) ρ R
  | [], k, ρ, h, _, hd => hd ρ h
  | x :: xs, k, ρ, h, hs, hd => by
    refine hs 0 x ρ rfl h _ fun ρ' h' => forW_inv I xs (k + 1) ρ' h' (fun i y ρ2 e h2 nx hn => ?_) fun ρ2 h2 => hd ρ2 ?_
    · have e1 : k + 1 + i = k + (i + 1) := by omega
      rw [e1] at h2
      refine hs (i + 1) y ρ2 e h2 nx fun ρ3 h3 => hn ρ3 ?_
      have e2 : k + 1 + i + 1 = k + (i + 1) + 1 := by omega
      rw [e2]
      exact h3
    · have e1 : k + 1 + xs.length = k + (x :: xs).length := by rw [List.length_cons]; omega
      rw [← e1]
      exact h2
theorem for_inv {enc : α → PyData} (I : Nat → Sv → Prop) {R : DEnds} {xs : List α} {ρ : Sv} (h0 : I 0 ρ)
    (hs : ∀ (i : Nat) (x : α) (ρ : Sv), xs[i]? = some x → I i ρ → ∀ nx : Sv → Prop, (∀ ρ', I (i + 1) ρ' → nx ρ') → G (enc x) ρ fun ρ1 => S ρ1 ⟨nx, R.rt, R.nx, nx⟩) (hd : ∀ ρ, I xs.length ρ → R.nx ρ) : forW G S (xs.map enc) ρ R :=
  forW_inv I xs 0 ρ h0 (fun i x ρ e h nx hn => hs i x ρ e (by rw [Nat.zero_add] at h; exact h) nx fun ρ' h' => hn ρ' (by rw [Nat.zero_add]; exact h')) fun ρ h => hd ρ (by rw [Nat.zero_add] at h; exact h)
/-- a for as a fold over a state s, told by st (the target's slot: any) -/
theorem for_fold {enc : α → PyData} {σ : Type} (st : σ → Sv → Prop) (f : σ → α → σ) {R : DEnds} : ∀ (xs : List α) (s : σ) (ρ : Sv), st s ρ →
    (∀ (x : α) (s : σ) (ρ : Sv), x ∈ xs → st s ρ → ∀ nx : Sv → Prop, (∀ ρ', st (f s x) ρ' → nx ρ') → G (enc x) ρ fun ρ1 => S ρ1 ⟨nx, R.rt, R.nx, nx⟩) → (∀ ρ, st (xs.foldl f s) ρ → R.nx ρ) → forW G S (xs.map enc) ρ R
  | [], s, ρ, h, _, hd => hd ρ h
  | x :: xs, s, ρ, h, hs, hd => hs x s ρ List.mem_cons_self h _ fun ρ' h' => for_fold st f xs (f s x) ρ' h' (fun y s2 ρ2 e h2 nx hn => hs y s2 ρ2 (List.mem_cons_of_mem _ e) h2 nx hn) fun ρ2 h2 => hd ρ2 h2

/-- one item of a comprehension -/
def LcOk (G : Gt) (T : Tt) (E : Et) (vs : List Nat) (ρ : Sv) (d : PyData) : Option PyData → Prop
  | some y => ∃ x ρ3, dats [x] = some [y] ∧ wipeE ρ3 vs = ρ ∧ ∀ (K1 : Dx → Sv → Prop) (K0 : Sv → Prop), K1 x ρ3 → G d ρ fun ρ1 => T ρ1 fun b ρ2 => if b = true then E ρ2 K1 else K0 ρ2
  | none => ∃ ρ3, wipeE ρ3 vs = ρ ∧ ∀ (K1 : Dx → Sv → Prop) (K0 : Sv → Prop), K0 ρ3 → G d ρ fun ρ1 => T ρ1 fun b ρ2 => if b = true then E ρ2 K1 else K0 ρ2
theorem lc_fm {enc : α → PyData} {encB : β → PyData} (g : α → Option β) {ρ : Sv} {Q : List PyData → Sv → Prop} : ∀ (xs : List α) (acc : List PyData), (∀ x ∈ xs, LcOk G T E vs ρ (enc x) ((g x).map encB)) →
    Q (acc ++ (xs.filterMap g).map encB) ρ → lcW G T E vs (xs.map enc) ρ acc Q
  | [], acc, _, q => by
    show Q acc ρ
    simpa using q
  | x :: xs, acc, h, q => by
    have h1 := h x List.mem_cons_self
    have h2 := fun y hy => h y (List.mem_cons_of_mem _ hy)
    show G (enc x) ρ fun ρ1 => T ρ1 fun b ρ2 => if b = true then E ρ2 (fun z ρ3 => ∃ y, dats [z] = some [y] ∧ lcW G T E vs (xs.map enc) (wipeE ρ3 vs) (acc ++ [y]) Q) else lcW G T E vs (xs.map enc) (wipeE ρ2 vs) acc Q
    cases e : g x with
    | some y =>
      rw [e] at h1
      obtain ⟨z, ρ3, e1, e2, h3⟩ := h1
      refine h3 _ (fun ρ2 => lcW G T E vs (xs.map enc) (wipeE ρ2 vs) acc Q) ⟨_, e1, ?_⟩
      rw [e2]
      refine lc_fm g xs _ h2 ?_
      rw [List.filterMap_cons_some e, List.map_cons] at q
      rw [List.append_assoc]
      exact q
    | none =>
      rw [e] at h1
      obtain ⟨ρ3, e2, h3⟩ := h1
      refine h3 _ (fun ρ2 => lcW G T E vs (xs.map enc) (wipeE ρ2 vs) acc Q) ?_
      show lcW G T E vs (xs.map enc) (wipeE ρ3 vs) acc Q
      rw [e2]
      refine lc_fm g xs _ h2 ?_
      rw [List.filterMap_cons_none e] at q
      exact q
/-- every item is kept -/
theorem lc_map {enc : α → PyData} {encB : β → PyData} (g : α → β) {ρ : Sv} {Q : List PyData → Sv → Prop} {xs : List α} (h : ∀ x ∈ xs, LcOk G T E vs ρ (enc x) (some (encB (g x)))) (q : Q ((xs.map g).map encB) ρ) : lcW G T E vs (xs.map enc) ρ [] Q := by
  refine lc_fm (fun x => some (g x)) xs [] (fun x hx => h x hx) ?_
  rw [List.nil_append, show xs.filterMap (fun x => some (g x)) = xs.map g from by rw [← List.filterMap_eq_map] <;> rfl]
  exact q
theorem fm_filter {γ : Type} (p : γ → Bool) : ∀ xs : List γ, xs.filterMap (fun x => if p x = true then some x else none) = xs.filter p
  | [] => rfl
  | x :: xs => by
    by_cases e : p x = true
    · rw [List.filterMap_cons_some (b := x) (by rw [if_pos e]), List.filter_cons_of_pos e, fm_filter p xs]
    · rw [List.filterMap_cons_none (by rw [if_neg e]), List.filter_cons_of_neg e, fm_filter p xs]
/-- the items that pass -/
theorem lc_filter {enc : α → PyData} (p : α → Bool) {ρ : Sv} {Q : List PyData → Sv → Prop} {xs : List α} (h : ∀ x ∈ xs, LcOk G T E vs ρ (enc x) (if p x = true then some (enc x) else none)) (q : Q ((xs.filter p).map enc) ρ) : lcW G T E vs (xs.map enc) ρ [] Q := by
  refine lc_fm (encB := enc) (fun x => if p x = true then some x else none) xs [] (fun x hx => ?_) ?_
  · have := h x hx
    by_cases e : p x = true
    · rw [if_pos e] at this ⊢
      exact this
    · rw [if_neg e] at this ⊢
      exact this
  · rw [List.nil_append, fm_filter]
    exact q
/-- no own thing in the slots vs -/
def freeB (ρ : Sv) : List Nat → Bool
  | [] => true
  | i :: vs => (match ρ[i]? with
    | some (some (.lst _)) => false
    | some (some (.dct _)) => false
    | _ => true) && freeB ρ vs
theorem free_of {ρ : Sv} : ∀ {vs : List Nat}, freeB ρ vs = true → freeE ρ vs
  | [], _ => fun i h => absurd h (by simp)
  | j :: vs, h => fun i hi c hc => by
    unfold freeB at h
    obtain ⟨h1, h2⟩ := Bool.and_eq_true_iff.mp h
    rcases List.mem_cons.mp hi with rfl | hi
    · rw [hc] at h1
      cases c with
      | dat _ => rfl
      | lst _ => cases h1
      | dct _ => cases h1
    · exact free_of h2 i hi c hc
theorem free_ok {ρ : Sv} {vs : List Nat} (h : freeB ρ vs = true := by rfl) : freeE ρ vs := free_of h
/-- one name as the target; tests and items that leave the slots alone -/
theorem lc_N {enc : α → PyData} {encB : β → PyData} {j : Nat} {ρ : Sv} {Q : List PyData → Sv → Prop} {xs : List α} (p : α → Bool) (g : α → β) (hj : j < ρ.length) (hw : ρ.set j none = ρ)
    (hT : ∀ x ∈ xs, ∀ K : Bool → Sv → Prop, K (p x) (ρ.set j (some (.dat (.d (enc x))))) → T (ρ.set j (some (.dat (.d (enc x))))) K)
    (hE : ∀ x ∈ xs, p x = true → ∀ K : Dx → Sv → Prop, K (.dat (.d (encB (g x)))) (ρ.set j (some (.dat (.d (enc x))))) → E (ρ.set j (some (.dat (.d (enc x))))) K)
    (q : Q (((xs.filter p).map g).map encB) ρ) : lcW (gN j) T E [j] (xs.map enc) ρ [] Q := by
  have w : ∀ c, wipeE (ρ.set j c) [j] = ρ := fun c => by
    show ((ρ.set j c).set j none) = ρ
    rw [List.set_set, hw]
  refine lc_fm (encB := encB) (fun x => if p x = true then some (g x) else none) xs [] (fun x hx => ?_) ?_
  · by_cases e : p x = true
    · rw [if_pos e]
      exact ⟨.dat (.d (encB (g x))), _, rfl, w _, fun K1 K0 h => ⟨hj, hT x hx _ (by rw [e, if_pos rfl]; exact hE x hx e _ h)⟩⟩
    · rw [if_neg e]
      have e' : p x = false := by simpa using e
      exact ⟨_, w (some (.dat (.d (enc x)))), fun K1 K0 h => ⟨hj, hT x hx _ (by rw [e', if_neg Bool.false_ne_true]; exact h)⟩⟩
  · rw [List.nil_append]
    have : xs.filterMap (fun x => if p x = true then some (g x) else none) = (xs.filter p).map g := by
      rw [← fm_filter p xs, ← List.filterMap_eq_map', List.filterMap_filterMap]
      congr 1
      funext x
      by_cases e : p x = true
      · rw [if_pos e, if_pos e]; rfl
      · rw [if_neg e, if_neg e]; rfl
    rw [this]
    exact q
theorem lc_Nm {enc : α → PyData} {encB : β → PyData} {j : Nat} {ρ : Sv} {Q : List PyData → Sv → Prop} {xs : List α} (g : α → β) (hj : j < ρ.length) (hw : ρ.set j none = ρ)
    (hE : ∀ x ∈ xs, ∀ K : Dx → Sv → Prop, K (.dat (.d (encB (g x)))) (ρ.set j (some (.dat (.d (enc x))))) → E (ρ.set j (some (.dat (.d (enc x))))) K)
    (q : Q ((xs.map g).map encB) ρ) : lcW (gN j) tYesD E [j] (xs.map enc) ρ [] Q := by
  refine lc_N (encB := encB) (fun _ => true) g hj hw (fun x hx K h => h) (fun x hx _ => hE x hx) ?_
  rw [List.filter_eq_self.mpr fun _ _ => rfl]
  exact q
/-- a pair of names as the target -/
theorem lc_P {γ : Type} {f : α → PyData} {f2 : γ → PyData} {encB : β → PyData} {i j : Nat} {ρ : Sv} {Q : List PyData → Sv → Prop} {xs : List (α × γ)} (p : α × γ → Bool) (g : α × γ → β) (hi : i < ρ.length) (hj : j < ρ.length) (hij : i ≠ j)
    (hw : (ρ.set i none).set j none = ρ)
    (hT : ∀ x ∈ xs, ∀ K : Bool → Sv → Prop, K (p x) ((ρ.set i (some (.dat (.d (f x.1))))).set j (some (.dat (.d (f2 x.2))))) → T ((ρ.set i (some (.dat (.d (f x.1))))).set j (some (.dat (.d (f2 x.2))))) K)
    (hE : ∀ x ∈ xs, p x = true → ∀ K : Dx → Sv → Prop, K (.dat (.d (encB (g x)))) ((ρ.set i (some (.dat (.d (f x.1))))).set j (some (.dat (.d (f2 x.2))))) → E ((ρ.set i (some (.dat (.d (f x.1))))).set j (some (.dat (.d (f2 x.2))))) K)
    (q : Q (((xs.filter p).map g).map encB) ρ) : lcW (gP i j) T E [i, j] (xs.map fun x => .tuple [f x.1, f2 x.2]) ρ [] Q := by
  have w : ∀ c d, wipeE ((ρ.set i c).set j d) [i, j] = ρ := fun c d => by
    show ((((ρ.set i c).set j d).set j none).set i none) = ρ
    rw [List.set_set, List.set_comm _ _ (Ne.symm hij), List.set_set, hw]
  refine lc_fm (enc := fun x : α × γ => .tuple [f x.1, f2 x.2]) (encB := encB) (fun x => if p x = true then some (g x) else none) xs [] (fun x hx => ?_) ?_
  · by_cases e : p x = true
    · rw [if_pos e]
      exact ⟨.dat (.d (encB (g x))), _, rfl, w _ _, fun K1 K0 h => ⟨_, _, rfl, hi, hj, hT x hx _ (by rw [e, if_pos rfl]; exact hE x hx e _ h)⟩⟩
    · rw [if_neg e]
      have e' : p x = false := by simpa using e
      exact ⟨_, w (some (.dat (.d (f x.1)))) (some (.dat (.d (f2 x.2)))), fun K1 K0 h => ⟨_, _, rfl, hi, hj, hT x hx _ (by rw [e', if_neg Bool.false_ne_true]; exact h)⟩⟩
  · rw [List.nil_append]
    have : xs.filterMap (fun x => if p x = true then some (g x) else none) = (xs.filter p).map g := by
      rw [← fm_filter p xs, ← List.filterMap_eq_map', List.filterMap_filterMap]
      congr 1
      funext x
      by_cases e : p x = true
      · rw [if_pos e, if_pos e]; rfl
      · rw [if_neg e, if_neg e]; rfl
    rw [this]
    exact q
theorem lc_Pm {γ : Type} {f : α → PyData} {f2 : γ → PyData} {encB : β → PyData} {i j : Nat} {ρ : Sv} {Q : List PyData → Sv → Prop} {xs : List (α × γ)} (g : α × γ → β) (hi : i < ρ.length) (hj : j < ρ.length) (hij : i ≠ j)
    (hw : (ρ.set i none).set j none = ρ)
    (hE : ∀ x ∈ xs, ∀ K : Dx → Sv → Prop, K (.dat (.d (encB (g x)))) ((ρ.set i (some (.dat (.d (f x.1))))).set j (some (.dat (.d (f2 x.2))))) → E ((ρ.set i (some (.dat (.d (f x.1))))).set j (some (.dat (.d (f2 x.2))))) K)
    (q : Q ((xs.map g).map encB) ρ) : lcW (gP i j) tYesD E [i, j] (xs.map fun x => .tuple [f x.1, f2 x.2]) ρ [] Q := by
  refine lc_P (encB := encB) (fun _ => true) g hi hj hij hw (fun x hx K h => h) (fun x hx _ => hE x hx) ?_
  rw [List.filter_eq_self.mpr fun _ _ => rfl]
  exact q
end
end DL
end DLp
section DLq
set_option Elab.async false
set_option linter.all false
set_option maxRecDepth 100000
set_option maxHeartbeats 1000000
/-! DLq: sorted, raise that is never reached, other small rules -/
namespace PySem.SeqAt
open PySem PySem.Calls PyProof.Rows
section
variable {A : Around} {s : Shared}
theorem call_tuple_ltX {prog : Program} {w : World} {E : Value → Shared → Prop} {Q : Value → Shared → Prop} {l b : Addr} {items items2 : Array Value} {e r : Nat → Bool} (hl : s.heap.IsTuple l items) (hb : s.heap.IsTuple b items2)
    (he : ∀ j (h1 : j < items.size) (h2 : j < items2.size), EqAt A.in1 s items[j] items2[j] (e j)) (hr : ∀ j (h1 : j < items.size) (h2 : j < items2.size), e j = false → RcLt A.in1 s items[j] items2[j] (r j))
    (h : Q (.bool (firstLt e r (decide (items.size < items2.size)) (List.range (min items.size items2.size)))) s) : wpAny (model prog w) A (call (.builtin "tuple.__lt__") [.ref l, .ref b]) Q E s := by
  obtain ⟨⟨c1, d1, t1, s1⟩, ho, hc, n, hd⟩ := id hl
  obtain ⟨⟨c2, d2, t2, s2⟩, ho2, hc2, n2, hd2⟩ := id hb
  simp only at hc hd hc2 hd2
  subst hc hd hc2 hd2
  exact call_meets F.slot_tuple_lt ⟨_, ho, rfl⟩ F.entry_tuple_lt (F.args_tuple_lt_2 _ _) (tuple_ltAt l b items items2 n n2 d1 d2 s1 s2 e r) ⟨ho, ho2, he, hr, h⟩
end
end PySem.SeqAt
namespace PySem.W
open PySem PySem.Calls PyProof.Rows PySem.SeqAt
section
variable {prog : Program} {w : World} {A : Around} {E : Value → Shared → Prop} {s : Shared}
theorem oneLt_tupX {xs ys : List PyData} {a b : Value} {as bs : List Addr} {Q : Bool → Shared → Prop} (ra : Reads s.heap a (.tuple xs) as) (rb : Reads s.heap b (.tuple ys) bs) (h : alike (.tuple xs) (.tuple ys) = true)
    (hu : A.units + min (PyData.tuple xs).depth (PyData.tuple ys).depth < cLine) (hq : Q (dataLt (.tuple xs) (.tuple ys)) s) : wpAny (model prog w) A (oneLt' true a b) Q E s := by
  have hal : alikeAll xs ys = true := by simpa [alike] using h
  cases ra with
  | @tuple l o vs n _ as₁ h1 h2 h3 h4 =>
    cases rb with
    | @tuple l' o' vs' n' _ bs₁ k1 k2 k3 k4 =>
      have n1 : vs.size = xs.length := by simpa using ReadsAll.length _ _ _ h4
      have n2 : vs'.size = ys.length := by simpa using ReadsAll.length _ _ _ k4
      rw [dataLt_tuple, ← firstLt_toks xs ys hal, ← n1, ← n2] at hq
      rw [oneLt'_eq]
      simp only [if_true]
      refine wpAny_bind (wpAny_cRoomFor (room_here hu) ?_)
      refine wpAny_bind (wpAny_callSpecialIfBound?_slot (T := "tuple") ⟨_, h1, h2⟩ F.slot_tuple_lt (call_tuple_ltX (e := pairEq xs ys) (r := fun j => dataLt (xs.getD j .none) (ys.getD j .none)) ⟨_, h1, h2, _, h3⟩ ⟨_, k1, k2, _, k3⟩ (fun j j1 j2 => ?_) (fun j j1 j2 hj => ?_) ?_))
      · have := eqAt_alikeAll xs ys A.in1 s vs.toList vs'.toList _ _ h4 k4 hal (room_in hu) j (by simpa using j1) (by simpa using j2)
        simpa using this
      · have := rcLt_alikeAll xs ys A.in1 s vs.toList vs'.toList _ _ h4 k4 hal (room_in hu) j (by simpa using j1) (by simpa using j2) hj
        simpa using this
      · exact wpAny_truthy_bool hq
/-- the first items, where there is one -/
def firstsX : List PyData → List Value → List (Option Value) → Prop
  | [], [], [] => True
  | .tuple xs :: ds, _ :: vs, f :: fs => (f.isSome = true ↔ xs ≠ []) ∧ firstsX ds vs fs
  | _, _, _ => False
theorem kat_firstsX : ∀ (vs : List Value) (ds : List PyData) {Q : List (Option Value) → Shared → Prop}, EachIs (fun v d => ∃ as, Reads s.heap v d as) vs ds → (∀ d ∈ ds, ∃ xs, d = .tuple xs) → (∀ fs, firstsX ds vs fs → Q fs s) → wpAny (model prog w) A (vs.mapM firstOfTuple') Q E s
  | _, _, Q, .nil, _, h => by rw [List.mapM_nil]; exact wpAny_pure (h [] True.intro)
  | _, _, Q, .cons (a := v) (b := d) (as := vs) (bs := ds) hv t, ht, h => by
    obtain ⟨as, ra⟩ := hv
    obtain ⟨xs, rfl⟩ := ht d (List.mem_cons_self ..)
    cases ra with
    | @tuple l o xs' n _ as₁ h1 h2 h3 h4 =>
      have n1 : xs'.size = xs.length := by simpa using ReadsAll.length _ _ _ h4
      rw [List.mapM_cons]
      refine wpAny_bind ?_
      rw [kas_first_eq]
      refine wpAny_bind (Looks.here (show Looks (model prog w) s.heap (typeOf (.ref l)) o.cls from (Looks.ld h1).andThen .now) ?_)
      rw [h2, if_neg (by first | decide | simp)]
      refine wpAny_bind (listItems_at h1 h3 (wpAny_pure ?_))
      refine wpAny_bind (kat_firstsX vs ds (Q := fun bs s' => wpAny (model prog w) A (pure (xs'[0]? :: bs)) Q E s') t (fun d hd => ht d (List.mem_cons_of_mem _ hd)) fun fs hf => wpAny_pure (h _ ⟨?_, hf⟩))
      constructor
      · rintro q rfl
        have : xs'.size = 0 := by simpa using n1
        rw [Array.getElem?_eq_none (by omega)] at q
        cases q
      · intro q
        have : 0 < xs'.size := by rw [n1]; exact List.length_pos_iff.mpr q
        rw [Array.getElem?_eq_getElem this]; rfl
theorem firstsX_some : ∀ {ds : List PyData} {vs : List Value} {fs : List (Option Value)}, firstsX ds vs fs → (fs.all (·.isSome) = true) → ∀ d ∈ ds, ∃ x r, d = .tuple (x :: r)
  | [], [], [], _, _, d, hd => absurd hd (by simp)
  | .tuple xs :: ds, _ :: vs, f :: fs, h, ha, d, hd => by
    rw [List.all_cons, Bool.and_eq_true] at ha
    rcases List.mem_cons.mp hd with rfl | hd
    · have := h.1.mp ha.1
      cases xs with
      | nil => exact absurd rfl this
      | cons x r => exact ⟨x, r, rfl⟩
    · exact firstsX_some h.2 ha.2 d hd
  | .tuple _ :: _, [], _, h, _, _, _ => h.elim
  | .tuple _ :: _, _ :: _, [], h, _, _, _ => h.elim
  | [], _ :: _, _, h, _, _, _ => h.elim
  | [], [], _ :: _, h, _, _, _ => h.elim
  | .none :: _, _, _, h, _, _, _ => by simp [firstsX] at h
  | .bool _ :: _, _, _, h, _, _, _ => by simp [firstsX] at h
  | .int _ :: _, _, _, h, _, _, _ => by simp [firstsX] at h
  | .str _ :: _, _, _, h, _, _, _ => by simp [firstsX] at h
  | .list _ :: _, _, _, h, _, _, _ => by simp [firstsX] at h
  | .dict _ :: _, _, _, h, _, _, _ => by simp [firstsX] at h
/-- alike tuples, empty ones among them -/
theorem SortsAt.tupsX {vs : List Value} {ds : List PyData} (e : EachIs (fun v d => ∃ as, Reads s.heap v d as) vs ds) (hal : AllAlike ds) (hk : ∀ d ∈ ds, ∃ xs, d = .tuple xs) (hu : ∀ d, d ∈ ds → A.units + d.depth < cLine) : SortsAt prog w A s (dataKind s.heap ds) vs := by
  by_cases hall : ∀ d ∈ ds, ∃ x r, d = .tuple (x :: r)
  · exact SortsAt.data e hal (.inl hall) hu
  · have room : ∀ {d d' : PyData}, d ∈ ds → A.units + min d.depth d'.depth < cLine := fun {d d'} hd => Nat.lt_of_le_of_lt (Nat.add_le_add_left (Nat.min_le_left _ _) _) (hu d hd)
    have lt : ∀ (f : Bool) (E : Value → Shared → Prop) (x y : Value) (a b : (dataKind s.heap ds).α) (Q : Bool → Shared → Prop), (dataKind s.heap ds).keyOf x = some a → (dataKind s.heap ds).keyOf y = some b → Q ((dataKind s.heap ds).blt a b) s → wpAny (model prog w) A (oneLt' f x y) Q E s := by
      intro f E x y a b Q ha hb hq
      obtain ⟨d, as, hd, ra, rfl⟩ := dataKind_inv ha
      obtain ⟨d', as', hd', rb, rfl⟩ := dataKind_inv hb
      have hdd := hal d hd d' hd'
      obtain ⟨xs, rfl⟩ := hk d hd
      obtain ⟨ys, rfl⟩ := hk d' hd'
      cases f with
      | true => exact oneLt_tupX ra rb hdd (room hd) hq
      | false => exact oneLt_alike (fun z => by cases z) ra rb hdd (by simp) (room hd) hq
    refine ⟨fun v hv => ?_, ?_⟩
    · obtain ⟨d, hd, as, r⟩ := e.left v hv
      exact ⟨_, dataKind_some hal hd r⟩
    · have fin : ∀ (kd : SortKind), (∀ fs, firstsX ds vs fs → ∀ (E : Value → Shared → Prop) {Q : SortKind → Shared → Prop}, Q kd s → 2 ≤ vs.length → wpAny (model prog w) A (do
            if ((fs.toArray)[0]?.bind id).isSome then return general'
            return if (← oneTypeOnly' vs.toArray).isSome then oneType' else general') Q E s) → ∀ (h2 : 2 ≤ vs.length) (E : Value → Shared → Prop) {Q : SortKind → Shared → Prop}, Q kd s → wpAny (model prog w) A (keyKind' vs.toArray) Q E s := by
        intro kd hkd h2 E Q hq
        rw [kat_kind_eq, List.mapM_toArray, map_eq_pure_bind]
        refine wpAny_bind (wpAny_bind (kat_firstsX vs ds e hk fun fs hf => wpAny_pure ?_))
        rw [if_neg (fun q => hall (firstsX_some hf (by simpa using q)))]
        exact hkd fs hf E hq h2
      cases ds with
      | nil => exact absurd (fun d hd => absurd hd (by simp)) hall
      | cons d₀ ds₀ =>
        obtain ⟨xs₀, rfl⟩ := hk d₀ (List.mem_cons_self ..)
        cases xs₀ with
        | cons x₀ r₀ =>
          refine ⟨general', fun E x y a b Q ha hb hq => ?_, fin _ fun fs hf E Q hq h2 => ?_⟩
          · exact lt false E x y a b Q ha hb hq
          · match vs, fs, hf with
            | v :: vs, some f :: fs, hf => exact wpAny_pure hq
            | v :: vs, none :: fs, hf => exact absurd (hf.1.mpr (by simp)) (by simp)
            | [], _, hf => exact hf.elim
            | _ :: _, [], hf => exact hf.elim
        | nil =>
          refine ⟨oneType', fun E x y a b Q ha hb hq => ?_, fin _ fun fs hf E Q hq h2 => ?_⟩
          · rw [keyLt'_oneType]
            exact lt true E x y a b Q ha hb hq
          · have hT : ∀ v ∈ vs, Looks (model prog w) s.heap (typeOf v) (.type "tuple") := fun v hv => by
              obtain ⟨d, hd, as, r⟩ := e.left v hv
              obtain ⟨xs, rfl⟩ := hk d hd
              exact looks_reads r
            match vs, fs, hf with
            | v :: vs, some f :: fs, hf => exact absurd (hf.1.mp rfl) (by simp)
            | v :: vs, none :: fs, hf =>
              show wpAny (model prog w) A (do return if (← oneTypeOnly' (v :: vs).toArray).isSome then oneType' else general') Q E s
              rw [oneTypeOnly'_eq, List.mapM_toArray, map_eq_pure_bind]
              refine wpAny_bind (wpAny_bind (wpAny_bind (kas_mapM (r := Value.type "tuple") _ (fun v hv Q' hq => (hT v hv).here hq) (wpAny_pure ?_))))
              have h1 : ((List.map (fun _ => Value.type "tuple") (v :: vs)).toArray.all fun x => x == Value.type "tuple") = true := by
                simp only [List.all_toArray, List.all_map, List.all_eq_true]
                intro _ _
                exact beq_self_eq_true _
              have h0 : (List.map (fun _ => Value.type "tuple") (v :: vs)).toArray[0]? = some (Value.type "tuple") := by simp
              rw [h0]
              simp only [h1, if_true]
              exact wpAny_pure (wpAny_pure hq)
            | [], _, hf => exact hf.elim
            | _ :: _, [], hf => exact hf.elim
end
end PySem.W
namespace DL
open PySem PySem.Spec PyProof.Rows L2
noncomputable def srtD (l : List PyData) : List PyData := l.mergeSort (PySem.W.dataLe false id)
structure SrtOk (l : List PyData) : Prop where
  alike : PySem.W.AllAlike l
  kind : PySem.W.Sortable l ∨ ∀ d ∈ l, ∃ xs, d = .tuple xs
  dep : ∀ d ∈ l, d.depth ≤ 50
section
variable {X : Cx} {a b c e o : Expr} {es : List Expr} {Ea Eb Ec E : Et} {pos : Pos}
variable {P : Program} {w : World} {H H' H1 Hs : Hp} {σ : L2.St} {ρ ρ' ρ1 : Sv}
abbrev Rvd (H : Hp) (v : Value) (d : PyData) : Prop := ∃ z, RelV z v ∧ Dv H z d
theorem each_of : ∀ {ys : List V} {its : List Value} {l : List PyData}, Vals ys its → DvAll H ys l → PySem.W.EachIs (Rvd H) its l
  | _, _, _, .nil, .nil => .nil
  | _, _, _, .cons r rs, .cons d ds => .cons ⟨_, r, d⟩ (each_of rs ds)
theorem of_each : ∀ {out : List Value} {l : List PyData}, PySem.W.EachIs (Rvd H) out l → ∃ zs, Vals zs out ∧ DvAll H zs l
  | _, _, .nil => ⟨[], .nil, .nil⟩
  | _, _, .cons ⟨z, r, d⟩ t => let ⟨zs, h1, h2⟩ := of_each t; ⟨z :: zs, .cons r h1, .cons d h2⟩
def rSrtD (K : PySem.W.Frag) : List V → Hp → VK → Prop := fun vs H Q => ∃ a ys l, vs = [V.ref a] ∧ SqL K H a ys ∧ DvAll H ys l ∧ SrtOk l ∧ ∀ zs p, H p = none → DvAll H zs (srtD l) → Q (.ref p) (upd H p (.lst zs))
theorem cr_srtD (hu : X.A.units + 64 < cLine) : CallR X (.builtin "sorted") (rSrtD X.K) := by
  intro pins s σ H vs us Q I r h
  obtain ⟨a, ys, l, rfl, hs, hd, ok, q⟩ := h
  obtain ⟨its, rv, hl, hz⟩ := I.list hs
  rw [Vals.ref1 r]
  have e0 := each_of rv hd
  have er : PySem.W.EachIs (fun v b => ∃ as, PySem.Reads s.heap v (id b) as) its l := e0.mono fun v d ⟨z, h1, h2⟩ => Dp.reads I d z v h2.dp h1
  have hal : PySem.W.AllAlike (l.map id) := by rw [List.map_id]; exact ok.alike
  have hu2 : ∀ b, b ∈ l → X.A.units + 2 + (id b : PyData).depth < cLine := fun b hb => by
    have := ok.dep b hb
    show X.A.units + 2 + b.depth < cLine
    omega
  have hL : its.length ≤ sizeLine := by rw [← rv.length]; exact hz
  have hll : l.length = its.length := by rw [← hd.length, rv.length]
  have er' : PySem.W.EachIs (fun v b => ∃ as, PySem.Reads (PySem.W.sortingHeap (PySem.W.copyHeap s.heap its) (s.heap.objs.size + 1) its) v (id b) as) its l := er.mono fun _ _ ⟨as, r⟩ => ⟨as, PyProof.Rows.Reads.keeps (fun _ _ => PySem.W.sorting_copy_old) r⟩
  refine PySem.W.sorted_vals hl.isList (κ := PySem.W.dataKind (PySem.W.sortingHeap (PySem.W.copyHeap s.heap its) (s.heap.objs.size + 1) its) (l.map id)) ?_ hL ?_
  · have e1 := PySem.W.each_map (R := fun v d => ∃ as, PySem.Reads (PySem.W.sortingHeap (PySem.W.copyHeap s.heap its) (s.heap.objs.size + 1) its) v d as) id er'
    rcases ok.kind with hk | hk
    · exact PySem.W.SortsAt.data e1 hal (by rw [List.map_id]; exact hk) (PySem.W.bound_map hu2)
    · exact PySem.W.SortsAt.tupsX e1 hal (by rw [List.map_id]; exact hk) (PySem.W.bound_map hu2)
  · have eo := PySem.W.sortVals_data false e0 er' hal
    obtain ⟨zs, h1, h2⟩ := of_each eo
    obtain ⟨ep, he'⟩ := PyProof.Rows.sortedAll_at s.heap its (PySem.W.sortVals (PySem.W.dataKind (PySem.W.sortingHeap (PySem.W.copyHeap s.heap its) (s.heap.objs.size + 1) its) (l.map id)) false its its).toArray
    have hlen : zs.length ≤ sizeLine := by rw [h2.length, List.length_mergeSort, hll]; exact hL
    exact ⟨.ref _, upd H (s.heap.objs.size + 1) (.lst zs), I.laid (t' := s.toks) (fun _ _ => PyProof.Rows.sortedAll_old) (Nat.le_succ _) ⟨hlen, _, ep, h1, he'⟩, rfl, q _ _ (I.hok.fresh (Nat.le_succ _)) h2⟩
def cSrt : List Dx → Et := fun xs ρ Q => match xs with
  | [x] => match ddOf ρ x with
    | some (.list l) => SrtOk l ∧ Q (.new (.lst (srtD l))) ρ
    | _ => False
  | _ => False
theorem ca_srt : CaD X (rSrtD X.K) cSrt := by
  intro σ H Hs ρ vs xs R Q rep hs hx k q
  unfold cSrt at k
  split at k
  · rename_i x
    obtain ⟨v, rfl, hv⟩ := hx.one
    split at k
    · rename_i l e
      obtain ⟨a, ys, rfl, h1, h2⟩ := dd_lst rep hv e
      refine ⟨a, ys, l, rfl, ?_, h2, k.1, fun zs p hp hz => q _ _ (dl_new rep k.2 hp (hs p hp) hz)⟩
      rcases h1 with h1 | ⟨od, h1⟩
      · exact .inl (.inl h1)
      · exact .inl (.inr ⟨od, h1⟩)
    · exact k.elim
  · exact k.elim
section
variable {x : Str} {p : Pos} {A : At} {k : Nat}
theorem de_sorted (hr : RoomG k X.A) (hx : x = ("sorted" : Str)) (hg : Gl X x) (hm : X.mg "sorted" = none) (ha : DA X (e :: es) A) (he : starEach (e :: es) X.env = (false, eval e X.env) :: starEach es X.env := by rfl) (hpl : (backTo pos (starEach es X.env)).any (·.1) = false := by rfl) :
    DE X (.Call (.Name x p) (e :: es) [] pos) (eCall A cSrt) := by
  subst hx
  exact de_callB ca_srt (cr_srtD hr.hu) hg hm (by decide +kernel) ha (by decide) (by decide) he hpl
end
/-- code that is never reached -/
def sNever : Stt := fun _ _ => False
theorem ds_never {st : Stmt} : DS X st sNever := PS.imp ps_never fun D σ H ⟨ρ, R, rep, h, t⟩ => h.elim
end
end DL
end DLq
section DLr
set_option Elab.async false
set_option linter.all false
set_option maxRecDepth 100000
set_option maxHeartbeats 1000000
/-! DLr: dicts whose keys are tuples: by values -/
namespace DL
open PySem PySem.Spec PyProof.Rows L2
def kAt {α : Type} (l : List (NestedKey × α)) (k : NestedKey) : Option α := (l.find? fun x => decide (x.1 = k)).map (·.2)
def kPut {α : Type} (l : List (NestedKey × α)) (k : NestedKey) (v : α) : List (NestedKey × α) := if (kAt l k).isSome then l.map fun x => if x.1 = k then (x.1, v) else x else l ++ [(k, v)]
theorem kAt_cons {α : Type} (x : NestedKey × α) (l : List (NestedKey × α)) (k : NestedKey) : kAt (x :: l) k = if x.1 = k then some x.2 else kAt l k := by
  unfold kAt
  by_cases h : x.1 = k
  · rw [List.find?_cons_of_pos (by simpa using h), if_pos h]; rfl
  · rw [List.find?_cons_of_neg (by simpa using h), if_neg h]
theorem atKey_cons (x : NestedKey × Addr × Value) (l : List (NestedKey × Addr × Value)) (k : NestedKey) : atKey (x :: l) k = if x.1 = k then some x.2 else atKey l k := by
  unfold atKey
  by_cases h : x.1 = k
  · rw [List.find?_cons_of_pos (by simpa using h), if_pos h]; rfl
  · rw [List.find?_cons_of_neg (by simpa using h), if_neg h]

section
variable {P : Program} {w : World} {H H' : Hp} {pins : List (Addr × Obj)} {s : Shared} {σ : L2.St} {X : Cx}
/-- entries of the heap, by values -/
abbrev KvR (H : Hp) (p : NestedKey × V) (q : NestedKey × Addr × Value) : Prop := p.1 = q.1 ∧ (NkV H (.ref q.2.1) p.1 ∧ p.1.depth ≤ 8) ∧ RelV p.2 q.2.2
theorem kv_at {vs : List (NestedKey × V)} {xs : List (NestedKey × Addr × Value)} (h : Paired (KvR H) vs xs) (k : NestedKey) : match kAt vs k with
    | some z => ∃ p, atKey xs k = some p ∧ RelV z p.2
    | none => atKey xs k = none := by
  induction h with
  | nil => exact rfl
  | @cons a b l1 l2 r t ih =>
    rw [kAt_cons, atKey_cons, ← r.1]
    by_cases e : a.1 = k
    · rw [if_pos e, if_pos e]; exact ⟨_, rfl, r.2.2⟩
    · rw [if_neg e, if_neg e]; exact ih
theorem kv_some {vs : List (NestedKey × V)} {xs : List (NestedKey × Addr × Value)} (h : Paired (KvR H) vs xs) (k : NestedKey) : (atKey xs k).isSome = (kAt vs k).isSome := by
  have := kv_at h k
  cases e : kAt vs k with
  | none => rw [e] at this; rw [show atKey xs k = none from this]; rfl
  | some z => rw [e] at this; obtain ⟨p, e2, _⟩ := this; rw [e2]; rfl
theorem kv_put {vs : List (NestedKey × V)} {xs : List (NestedKey × Addr × Value)} {k : NestedKey} {a : Addr} {z : V} {u : Value} (h : Paired (KvR H) vs xs) (hk : NkV H (.ref a) k) (hd : k.depth ≤ 8) (r : RelV z u) : Paired (KvR H) (kPut vs k z) (storedH xs k a u) := by
  unfold kPut storedH
  rw [kv_some h k]
  by_cases e : (kAt vs k).isSome = true
  · rw [if_pos e, if_pos e]
    clear e
    induction h with
    | nil => exact .nil
    | @cons p q l1 l2 g t ih =>
      rw [List.map_cons, List.map_cons]
      refine .cons ?_ ih
      unfold putAt
      have g1 := g.1
      obtain ⟨k1, a1, u1⟩ := q
      simp only at g1
      subst g1
      by_cases e : p.1 = k
      · rw [if_pos e, if_pos e]; exact ⟨rfl, g.2.1, r⟩
      · rw [if_neg e, if_neg e]; exact ⟨rfl, g.2⟩
  · rw [if_neg e, if_neg e]
    exact h.snoc ⟨rfl, ⟨hk, hd⟩, r⟩
theorem kPut_keys {α : Type} (l : List (NestedKey × α)) (k : NestedKey) (v : α) : (kPut l k v).map (·.1) = if (kAt l k).isSome then l.map (·.1) else l.map (·.1) ++ [k] := by
  unfold kPut
  split
  · rw [List.map_map]
    refine List.map_congr_left fun x _ => ?_
    show (if x.1 = k then (x.1, v) else x).1 = x.1
    split <;> rfl
  · rw [List.map_append]; rfl
theorem kPut_len {α : Type} (l : List (NestedKey × α)) (k : NestedKey) (v : α) : (kPut l k v).length ≤ l.length + 1 := by
  have := congrArg List.length (kPut_keys l k v)
  rw [List.length_map] at this
  rw [this]
  split
  · rw [List.length_map]; omega
  · rw [List.length_append, List.length_map]; exact Nat.le_refl _
mutual
theorem nk_is (I : Inv X pins σ H s) : ∀ (k : NestedKey) (v : V) (u : Value), NkV H v k → RelV v u → NestedIs s.heap k u
  | _, _, _, .num i, r => by obtain ⟨t, rfl⟩ := r; exact .int i t
  | _, _, _, .text x, r => by obtain ⟨t, rfl⟩ := r; exact .text x t
  | _, _, u, .tup (a := a) (ks := ks) e h, r => by
    obtain rfl : u = .ref a := r
    obtain ⟨_, its, rv, o, ho, hc, n, hd⟩ := I.hok _ _ e
    exact .tup ho hc hd (nk_all I _ _ _ h (by simpa using rv))
theorem nk_all (I : Inv X pins σ H s) : ∀ (ks : List NestedKey) (vs : List V) (us : List Value), NkAll H vs ks → Vals vs us → NestedAll s.heap ks us
  | _, _, _, .nil, r => by cases r; exact .nil
  | _, _, _, .cons a t, r => by cases r with | cons r rs => exact .cons (nk_is I _ _ _ a r) (nk_all I _ _ _ t rs)
end
/-- the dict's object at a: own or locked -/
abbrev ObAt (H : Hp) (a : Addr) (o : Obj) : Prop := H a = some (.ext (objIs a o)) ∨ ∃ ob, H a = some (.frz ob (.ext (objIs a o)))
theorem ObAt.get {a : Addr} {o : Obj} (h : ObAt H a o) (I : Inv X pins σ H s) : s.heap.get? a = some o := by
  rcases h with h | ⟨ob, h⟩
  · exact (I.hok a _ h).1
  · exact (I.hok a _ h).2.1
theorem dict_of (I : Inv X pins σ H s) {a : Addr} {o : Obj} {vs : List (NestedKey × V)} (ha : ObAt H a o) (D : DictRep X.prog X.w H a o vs) : ∃ xs, s.heap.DictOfH (nestedKind X.prog X.w) a xs ∧ Paired (KvR H) vs xs := by
  obtain ⟨h1, h2, h3, es, ep, xs, h4, h5, h6, h7⟩ := D
  refine ⟨xs, ⟨o, es, ep, ha.get I, h1, h4, h5, fun x hx => ?_, h6⟩, h7⟩
  clear h2 h5 h6
  induction h7 with
  | nil => simp at hx
  | @cons p q l1 l2 g t ih =>
    rcases List.mem_cons.mp hx with rfl | hx
    · rw [← g.1]
      exact ⟨nk_is I _ _ _ g.2.1.1 rfl, g.2.1.2⟩
    · exact ih hx
theorem of_dict {h : Heap} {a : Addr} {vs : List (NestedKey × V)} {xs : List (NestedKey × Addr × Value)} (D : h.DictOfH (nestedKind P w) a xs) (hp : Paired (KvR H) vs xs) (hl : vs.length ≤ sizeLine) (hs : (a == sysModules) = false) : ∃ o, h.get? a = some o ∧ DictRep P w H a o vs := by
  obtain ⟨o, es, ep, ho, hc, hd, he, hi, hn⟩ := D
  exact ⟨o, ho, hc, hl, hs, es, ep, xs, hd, he, hn, hp⟩
theorem paired_len {α β : Type} {F : α → β → Prop} {l1 : List α} {l2 : List β} (h : Paired F l1 l2) : l1.length = l2.length := by
  induction h with
  | nil => rfl
  | cons _ _ ih => rw [List.length_cons, List.length_cons, ih]
theorem DictRep.keysNodup {a : Addr} {o : Obj} {vs : List (NestedKey × V)} (D : DictRep P w H a o vs) : (vs.map (·.1)).Nodup := by
  obtain ⟨h1, h2, h3, es, ep, xs, h4, h5, h6, h7⟩ := D
  have : vs.map (·.1) = xs.map (·.1) := by
    clear h2 h5 h6
    induction h7 with
    | nil => rfl
    | cons g t ih => rw [List.map_cons, List.map_cons, ih, g.1]
  rw [this]; exact h6
theorem extOk {a : Addr} {o : Obj} {h : Heap} (e : h.get? a = some o) : ObjOk P w H h a (.ext (objIs a o)) := ⟨e, ⟨o, e⟩, fun _ _ h1 k => k _ h1⟩
theorem room1 (hu : X.A.units + 64 < cLine) : (nestedKind X.prog X.w).room X.A.in1 := by
  show X.A.units + 1 + 8 < cLine
  omega
theorem room0 (hu : X.A.units + 64 < cLine) : (nestedKind X.prog X.w).room X.A := by
  show X.A.units + 8 < cLine
  omega
/-- k in d, k not in d -/
def rInV (P : Program) (w : World) (n : Bool) : R2 := fun x y H Q => ∃ a b k o vs, x = .ref b ∧ y = .ref a ∧ ObAt H a o ∧ DictRep P w H a o vs ∧ NkV H (.ref b) k ∧ k.depth ≤ 8 ∧ Q (.bl (if n then !(kAt vs k).isSome else (kAt vs k).isSome)) H
theorem op_inV (hu : X.A.units + 64 < cLine) : OpR X (compareOp .In) (rInV X.prog X.w false) := by
  intro pins s σ H x y v u Q I rx ry ⟨a, b, k, o, vs, hx, hy, ho, D, hk, hd, q⟩
  subst hx hy
  obtain rfl : v = .ref b := rx
  obtain rfl : u = .ref a := ry
  obtain ⟨xs, hm, hp⟩ := dict_of I ho D
  refine wpAny_in_heap (knd := nestedKind X.prog X.w) (room1 hu) ⟨nk_is I _ _ _ hk rfl, hd⟩ D.2.2.1 hm ?_
  rw [kv_some hp]
  exact ⟨.bl _, H, I.tok _, rfl, q⟩
theorem op_notinV (hu : X.A.units + 64 < cLine) : OpR X (compareOp .NotIn) (rInV X.prog X.w true) := by
  intro pins s σ H x y v u Q I rx ry ⟨a, b, k, o, vs, hx, hy, ho, D, hk, hd, q⟩
  subst hx hy
  obtain rfl : v = .ref b := rx
  obtain rfl : u = .ref a := ry
  obtain ⟨xs, hm, hp⟩ := dict_of I ho D
  show wpAny _ _ (do return Value.bool (!(← contains (.ref a) (.ref b)))) _ _ s
  refine wpAny_bind (wpAny_contains_heap (knd := nestedKind X.prog X.w) (room1 hu) ⟨nk_is I _ _ _ hk rfl, hd⟩ D.2.2.1 hm (wpAny_pure ?_))
  rw [kv_some hp]
  exact ⟨.bl _, H, I.tok _, rfl, q⟩
/-- d[k] -/
def rGetV (P : Program) (w : World) : V → V → Hp → VK → Prop := fun y x H Q => ∃ a b k o vs z, x = .ref b ∧ y = .ref a ∧ ObAt H a o ∧ DictRep P w H a o vs ∧ NkV H (.ref b) k ∧ k.depth ≤ 8 ∧ kAt vs k = some z ∧ Q z H
theorem get_V (hu : X.A.units + 64 < cLine) : PGet X (rGetV X.prog X.w) := by
  intro pins s σ H y x u v Q I ry rx ⟨a, b, k, o, vs, z, hx, hy, ho, D, hk, hd, hz, q⟩
  subst hx hy
  obtain rfl : v = .ref b := rx
  obtain rfl : u = .ref a := ry
  obtain ⟨xs, hm, hp⟩ := dict_of I ho D
  have := kv_at hp k
  rw [hz] at this
  obtain ⟨p, e, r⟩ := this
  exact wpAny_getItem_heap (knd := nestedKind X.prog X.w) (room1 hu) ⟨nk_is I _ _ _ hk rfl, hd⟩ hm e ⟨z, H, I.tok _, r, q⟩
/-- d[k] = z -/
def rSetV (P : Program) (w : World) : TSet := fun y x z H Q => ∃ a b k o vs, x = .ref b ∧ y = .ref a ∧ H a = some (.ext (objIs a o)) ∧ DictRep P w H a o vs ∧ vs.length < 100000 ∧ NkV H (.ref b) k ∧ k.depth ≤ 8 ∧ ∀ o', DictRep P w (upd H a (.ext (objIs a o'))) a o' (kPut vs k z) → Q (upd H a (.ext (objIs a o')))
theorem set_V (hu : X.A.units + 64 < cLine) : PSet X (rSetV X.prog X.w) := by
  intro pins s σ H y x z u v t Q I ry rx rz ⟨a, b, k, o, vs, hx, hy, ho, D, hl, hk, hd, q⟩
  subst hx hy
  obtain rfl : v = .ref b := rx
  obtain rfl : u = .ref a := ry
  obtain ⟨xs, hm, hp⟩ := dict_of I (.inl ho) D
  have hp2 := kv_put hp hk hd rz
  have h16 : vs.length ≤ sizeLine := D.2.1
  refine wpAny_setItem_heap (knd := nestedKind X.prog X.w) (room1 hu) ⟨nk_is I _ _ _ hk rfl, hd⟩ hm (fun h' hm' hs => ?_) (by rw [← paired_len hp]; exact h16)
  have hl2 : (kPut vs k z).length ≤ sizeLine := by
    have := kPut_len vs k z
    rw [sizeLine_eq]
    omega
  obtain ⟨o', ho', D'⟩ := of_dict (H := H) hm' hp2 hl2 D.2.2.1
  have kp : Kp H (upd H a (.ext (objIs a o'))) := kp_put (.inr ⟨_, ho⟩)
  exact ⟨_, d_write I (by rw [ho]; trivial) hs ⟨_, ho'⟩ (extOk ho'), q o' (D'.keep kp)⟩
/-- {} -/
def tNewV (P : Program) (w : World) : TE := fun _ H Q => ∀ p o, H p = none → DictRep P w (upd H p (.ext (objIs p o))) p o [] → Q (.ref p) (upd H p (.ext (objIs p o)))
theorem pe_newV {pos : Pos} : PE X (.Dict [] [] pos) (tNewV X.prog X.w) := ⟨fun pins s σ H Q I h => by
  have hm := Heap.DictOfH.new (knd := nestedKind X.prog X.w) s.heap
  obtain ⟨o, ho, D⟩ := of_dict (P := X.prog) (w := X.w) (H := upd H s.heap.objs.size (.ext (objIs s.heap.objs.size { cls := .type "dict", data := .dict #[] }))) hm .nil (Nat.zero_le _) (beq_eq_false_iff_ne.mpr (Ne.symm (Nat.ne_of_lt I.big)))
  have e : (s.heap.push { cls := .type "dict", data := .dict #[] }).get? s.heap.objs.size = some { cls := .type "dict", data := .dict #[] } := Heap.get?_push_size _ rfl
  rw [e] at ho
  cases ho
  exact wpAny_Dict_empty ⟨.ref s.heap.objs.size, _, I.laid (a := s.heap.objs.size) (o := .ext (objIs s.heap.objs.size { cls := .type "dict", data := .dict #[] })) (t' := s.toks) (fun _ _ q => Heap.get?_push_of_some _ q) (Nat.le_refl _) (extOk e), rfl, h _ _ (I.hok.fresh (Nat.le_refl _)) D⟩⟩
end
end DL
end DLr
section DLs
set_option Elab.async false
set_option linter.all false
set_option maxRecDepth 100000
set_option maxHeartbeats 1000000
/-! DLs: dicts by values: walking, sorted, len, get -/
namespace PySem.W
open PySem PySem.Calls PyProof.Rows
theorem kdl_rawX {prog : Program} {w : World} {d : Addr} {es : Array DictEntry} {ep : Nat} (lo : (d == sysModules) = false) : KdlSrc prog w "dict" d d es.size (fun i v => ∃ hi : i < es.size, v = es[i].key) (fun h => h.DictRaw d es ep) where
  type := fun _ hm => hm.typeIs
  there := fun _ hm => let ⟨_, ho, _⟩ := hm; ⟨Heap.lt_size ho, Heap.lt_size ho⟩
  keep := fun _ _ hm hk => hm.at fun o e => hk d (.inl rfl) o e
  notList := by decide
  notTuple := by decide
  hint := fun _ _ _ _ hm hq => kdl_hint_dict hm.typeIs hq
  iter := fun _ _ hh hm => ⟨_, _, (fun _ _ hq => wpAny_pyIter_dict_raw lo hm hq), Walks.rawKeys hh _ d (let ⟨_, ho, _⟩ := hm; Nat.ne_of_lt (Heap.lt_size ho)) es ep, ⟨⟨_, Heap.get?_push_size _ rfl, rfl, rfl⟩, hm.at fun o e => Heap.get?_push_of_some _ e⟩⟩
end PySem.W
namespace DL
open PySem PySem.Spec PyProof.Rows L2
section
variable {P : Program} {w : World} {K : PySem.W.Frag} {H H' : Hp} {pins : List (Addr × Obj)} {s : Shared} {σ : L2.St} {X : Cx}
/-- the entries of a dict, read off -/
theorem dict_raw (I : Inv X pins σ H s) {a : Addr} {o : Obj} {vs : List (NestedKey × V)} (ha : ObAt H a o) (D : DictRep X.prog X.w H a o vs) : ∃ es ep, o.data = .dict es ep ∧ o.ExactDict ∧ s.heap.DictRaw a es ep ∧ es.size = vs.length ∧
    ∀ i (hi : i < es.size), ∃ k z q, vs[i]? = some (k, z) ∧ es[i].key = .ref q ∧ NkV H (.ref q) k ∧ k.depth ≤ 8 := by
  obtain ⟨h1, h2, h3, es, ep, xs, h4, h5, h6, h7⟩ := D
  have hz := size_of_entries h5
  have hl := paired_len h7
  refine ⟨es, ep, h4, h1, ⟨o, ha.get I, h1, h4⟩, by rw [hz, hl], fun i hi => ?_⟩
  have hx : i < vs.length := by rw [hl, ← hz]; exact hi
  obtain ⟨y, hy, g⟩ := paired_get h7 (List.getElem?_eq_getElem hx)
  have e := entry_at h5 i
  rw [hy, Array.getElem?_eq_getElem hi] at e
  have e' := Option.some.inj e
  refine ⟨vs[i].1, vs[i].2, y.2.1, List.getElem?_eq_getElem hx, ?_, g.2.1⟩
  rw [e']; rfl
/-- walking a locked dict -/
def Itn (P : Program) (w : World) (d : Addr) (o : Obj) (vs : List (NestedKey × V)) : It where
  go := fun i H => (∃ ob, H d = some (.frz ob (.ext (objIs d o)))) ∧ DictRep P w H d o vs ∧ i < vs.length
  yld := fun i H x H' => H' = H ∧ ∃ k q, (vs.map (·.1))[i]? = some k ∧ x = .ref q ∧ NkV H (.ref q) k
  stop := fun i H => (∃ ob, H d = some (.frz ob (.ext (objIs d o)))) ∧ DictRep P w H d o vs ∧ vs.length ≤ i
theorem turn_nk {P : Program} {w : World} {tg : Expr} {d : Addr} {o : Obj} {vs : List (NestedKey × V)} {es : Array DictEntry} {ep : Nat} (it : Addr) (hod : o.data = .dict es ep) :
    Turn P w K tg (Itn P w d o vs) [it] it (fun i h => h.IsKeyIter it d i vs.length ep) where
  mem := by simp
  obj := fun i h st b hb => by
    have e : b = it := by simpa using hb
    subst e
    obtain ⟨oi, e, c, dd⟩ := st
    exact ⟨oi, e, fun v z => by rw [dd] at z; cases z⟩
  keep := fun i h h' st k => st.at fun oi e => k it (by simp) oi e
  item := by
    intro X hP hw hK hc i pins s σ H E I hf st hg
    subst hP hw hK
    obtain ⟨⟨ob, hd⟩, hD, hi⟩ := hg
    obtain ⟨f0, f1, f2, f3, f4, f5⟩ := hf it (by simp)
    obtain ⟨es', ep', hdt, hx, hr, hsz, ent⟩ := dict_raw I (.inr ⟨ob, hd⟩) hD
    obtain ⟨rfl, rfl⟩ := dict_ep hod hdt
    have hi' : i < es'.size := by rw [hsz]; exact hi
    obtain ⟨k, z, q, e1, e2, e3, _⟩ := ent i hi'
    refine next_key_item st (ObAt.get (.inr ⟨ob, hd⟩) I) hdt hsz (Array.getElem?_eq_getElem hi') fun h' st' sb => ?_
    have I1 : Inv X pins σ H { s with heap := h' } := I.turned (t' := s.toks) (fun b ob hb e => (sb.2 b hb).trans e) f0 f1 f3 f4 f5
    obtain ⟨oi, e, c, dd⟩ := id st'
    exact ⟨es'[i].key, rfl, go_of (s := { s with heap := h' }) e c dd (by decide) ⟨.ref q, H, I1, e2, ⟨rfl, k, q, by rw [List.getElem?_map, e1]; rfl, rfl, e3⟩, st', fun b hb => (hf b hb).1⟩⟩
  done := by
    intro X hP hw hK hc i pins s σ H E I hf st hg
    subst hP hw hK
    obtain ⟨⟨ob, hd⟩, hD, hi⟩ := hg
    obtain ⟨f0, f1, f2, f3, f4, f5⟩ := hf it (by simp)
    obtain ⟨es', ep', hdt, hx, hr, hsz, ent⟩ := dict_raw I (.inr ⟨ob, hd⟩) hD
    obtain ⟨rfl, rfl⟩ := dict_ep hod hdt
    exact next_key_end (I.ok.hd hc) st (ObAt.get (.inr ⟨ob, hd⟩) I) hdt hsz hi fun h' eb => ⟨rfl, I.turned (t' := s.toks) (fun b ob hb e => eb b ob hb e) f0 f1 f3 f4 f5⟩
  self := fun A i s Q E st h => wpAny_pyIter_keyiter st h
/-- for k in d -/
def iNk (P : Program) (w : World) (td : TE) : TI := fun σ H R => td σ H fun x H1 => ∃ d o vs, x = .ref d ∧ (∃ ob, H1 d = some (.frz ob (.ext (objIs d o)))) ∧ DictRep P w H1 d o vs ∧ R (Itn P w d o vs) H1
theorem pi_nk {tg e : Expr} {td : TE} (he : PE X e td) : PI X tg e (iNk X.prog X.w td) := by
  refine ⟨fun pins s σ H R I h => ?_⟩
  refine thn (he.run pins s σ H _ I h) fun u s1 ⟨x, H1, I1, rx, d, o, vs, ex, ⟨ob, hd⟩, hD, q⟩ => ?_
  subst ex
  obtain rfl : u = Value.ref d := rx
  obtain ⟨es, ep, hdt, hx, hr, hsz, ent⟩ := dict_raw I1 (.inr ⟨ob, hd⟩) hD
  refine iter_keys hD.2.2.1 (ObAt.get (.inr ⟨ob, hd⟩) I1) hx hdt (pi_one (tk := s1.toks) I1 _ (turn_nk _ hdt) ⟨_, Heap.get?_push_size _ rfl, rfl, ?_⟩ q)
  rw [hsz] <;> rfl
/-- len(d) -/
def rLenV (P : Program) (w : World) : List V → Hp → VK → Prop := fun xs H Q => ∃ a o vs, xs = [V.ref a] ∧ ObAt H a o ∧ DictRep P w H a o vs ∧ Q (.int vs.length) H
theorem call_lenV : CallR X (.builtin "len") (rLenV X.prog X.w) := by
  intro pins s σ H xs us Q I r ⟨a, o, vs, ex, ha, D, q⟩
  subst ex
  obtain ⟨u, rfl, ru⟩ := vals1 r
  cases ru
  obtain ⟨es, ep, hdt, hx, hr, hsz, ent⟩ := dict_raw I ha D
  have hz : es.size ≤ sizeLine := by rw [hsz]; exact D.2.1
  rw [sizeLine_eq] at hz
  refine Calls.call_function_entry kind_len plain_len entry_len (args_len1 _) ?_
  unfold Builtin.«len»
  refine wpAny_bind (m := oneArg "len" _) (wpAny_pure ?_)
  refine wpAny_bind (m := callSpecial? (.ref a) (Str.ofString "__len__")) (wpAny_callSpecial?_slot (name := Str.ofString "__len__") hr.typeIs PySem.F.slot_dict_len (call_len_raw D.2.2.1 hr ?_))
  show wpAny _ _ _ _ _ { s with toks := s.toks + 1 }
  refine wpAny_bind (wpAny_holding (wpAny_pure ?_))
  refine wpAny_bind (wpAny_letGo ?_)
  have n0 : ¬ ((es.size : Nat) : Int) < 0 := by omega
  have n1 : ¬ ((es.size : Nat) : Int) ≥ 2 ^ 63 := by omega
  show wpAny _ _ (if ((es.size : Nat) : Int) < 0 then _ else _) _ _ _
  rw [if_neg n0]
  show wpAny _ _ (if ((es.size : Nat) : Int) ≥ 2 ^ 63 then _ else _) _ _ _
  rw [if_neg n1, hsz]
  exact wpAny_bind (wpAny_mkInt (wpAny_pure ⟨_, rfl, .int vs.length, H, I.tok _, ⟨_, rfl⟩, q⟩))
/-- d.get(k) -/
def rGet1V (P : Program) (w : World) : V → List V → Hp → VK → Prop := fun y xs H Q => ∃ a b k o vs, xs = [V.ref b] ∧ y = .ref a ∧ ObAt H a o ∧ DictRep P w H a o vs ∧ NkV H (.ref b) k ∧ k.depth ≤ 8 ∧ Q ((kAt vs k).getD .non) H
theorem mt_getV (hu : X.A.units + 64 < cLine) : MtR X "dict.get" (rGet1V X.prog X.w) := by
  intro pins s σ H y xs u us Q I ry rx ⟨a, b, k, o, vs, hx, hy, ho, D, hk, hd, q⟩
  subst hx hy
  obtain ⟨v, rfl, rv⟩ := vals1 rx
  obtain rfl : v = .ref b := rv
  obtain rfl : u = .ref a := ry
  obtain ⟨ys, hm, hp⟩ := dict_of I ho D
  refine get_keyed (knd := nestedKind X.prog X.w) (kvs := pairsH ys) (room1 hu) ⟨nk_is I _ _ _ hk rfl, hd⟩ D.2.2.1 ⟨ys, hm, rfl⟩ ?_
  rw [valueAt_pairsH]
  have := kv_at hp k
  cases e : kAt vs k with
  | none =>
    rw [e] at this q
    rw [show atKey ys k = none from this]
    exact ⟨.non, H, I.tok _, rfl, q⟩
  | some z =>
    rw [e] at this q
    obtain ⟨p, e2, r⟩ := this
    rw [e2]
    exact ⟨z, H, I.tok _, r, q⟩
/-- sorted(d): the keys -/
def rSrtV (P : Program) (w : World) : List V → Hp → VK → Prop := fun xs H Q => ∃ a o vs l, xs = [V.ref a] ∧ ObAt H a o ∧ DictRep P w H a o vs ∧ (∀ H1, (∀ b u, H b = some u → H1 b = some u) → ∀ zs, NkAll H1 zs (vs.map (·.1)) → DvAll H1 zs l) ∧ SrtOk l ∧
  ∀ zs p, H p = none → DvAll H zs (srtD l) → Q (.ref p) (upd H p (.lst zs))
theorem cr_srtV (hcalm : X.calm = true) (hu : X.A.units + 64 < cLine) : CallR X (.builtin "sorted") (rSrtV X.prog X.w) := by
  intro pins s σ H xs us Q I r ⟨a, o, vs, l, ex, ha, D, hl, ok, q⟩
  subst ex
  obtain ⟨u, rfl, ru⟩ := vals1 r
  cases ru
  obtain ⟨es, ep, hdt, hx, hr, hsz, ent⟩ := dict_raw I ha D
  have hz : es.size ≤ sizeLine := by rw [hsz]; exact D.2.1
  refine Calls.call_function_entry PyProof.Rows.kind_sorted PyProof.Rows.plain_sorted PyProof.Rows.entry_sorted (PyProof.Rows.args_sorted1 _) ?_
  unfold Builtin.«sorted»
  refine wpAny_bind (m := checkCount "sorted" 1 1 _) (wpAny_pure ?_)
  refine wpAny_bind (PySem.W.kdu_collect (A := X.A.in1) (PySem.W.kdl_rawX (es := es) (ep := ep) D.2.2.1) (I.ok.hd hcalm) hr hz fun h' tk acc hk hacc => ?_)
  have I1 : Inv X pins σ H { s with heap := h', toks := tk } := I.kept hk
  have hal : acc.toList.length = es.size := by rw [Array.length_toList, hacc.1]
  obtain ⟨zs, hzs, hnk⟩ : ∃ zs : List V, Vals zs acc.toList ∧ NkAll H zs (vs.map (·.1)) := by
    have key : ∀ (us : List Value) (ks : List NestedKey), us.length = ks.length → (∀ (j : Nat) (v : Value), us[j]? = some v → ∃ k q, ks[j]? = some k ∧ v = .ref q ∧ NkV H (.ref q) k) → ∃ zs : List V, Vals zs us ∧ NkAll H zs ks := by
      intro us
      induction us with
      | nil =>
        intro ks hl _
        cases ks with
        | nil => exact ⟨[], .nil, .nil⟩
        | cons k ks => cases hl
      | cons u us ih =>
        intro ks hl h
        cases ks with
        | nil => cases hl
        | cons k ks =>
          obtain ⟨k', q', e1, e2, e3⟩ := h 0 u rfl
          cases e1
          subst e2
          obtain ⟨zs, g1, g2⟩ := ih ks (Nat.succ.inj hl) fun j v e => h (j + 1) v e
          exact ⟨.ref q' :: zs, .cons rfl g1, .cons e3 g2⟩
    refine key _ _ (by rw [hal, hsz, List.length_map]) fun j v e => ?_
    obtain ⟨hj, ev⟩ := hacc.2 j v (by rw [← Array.getElem?_toList]; exact e)
    obtain ⟨k, z, q', e1, e2, e3, _⟩ := ent j hj
    exact ⟨k, q', by rw [List.getElem?_map, e1]; rfl, ev.trans e2, e3⟩
  have hdv := hl H (fun _ _ e => e) zs hnk
  have e0 := each_of hzs hdv
  have hll : l.length = acc.toList.length := by rw [← hdv.length, hzs.length]
  refine wpAny_bind (wpAny_newList ?_ (by rw [hal]; exact hz))
  have hoL : (h'.push (seqObj "list" acc.toList.toArray 0)).get? h'.objs.size = some (seqObj "list" acc.toList.toArray 0) := Heap.get?_push_size _ rfl
  show wpAny _ _ _ _ _ { s with heap := h'.push (seqObj "list" acc.toList.toArray 0), toks := tk }
  have old : ∀ b o, h'.get? b = some o → (PySem.W.sortingHeap (h'.push (seqObj "list" acc.toList.toArray 0)) h'.objs.size acc.toList).get? b = some o := fun b o e =>
    PySem.W.sortingHeap_old (Nat.ne_of_lt (Heap.lt_size e)) (Heap.get?_push_of_some _ e)
  have er' : PySem.W.EachIs (fun v b => ∃ as, PySem.Reads (PySem.W.sortingHeap (h'.push (seqObj "list" acc.toList.toArray 0)) h'.objs.size acc.toList) v (id b) as) acc.toList l := e0.mono fun v d ⟨z, h1, h2⟩ => by
    obtain ⟨as, r⟩ := Dp.reads I1 d z v h2.dp h1
    exact ⟨as, PyProof.Rows.Reads.keeps old r⟩
  have hal2 : PySem.W.AllAlike (l.map id) := by rw [List.map_id]; exact ok.alike
  have hu2 : ∀ b, b ∈ l → X.A.units + 2 + (id b : PyData).depth < cLine := fun b hb => by
    have := ok.dep b hb
    show X.A.units + 2 + b.depth < cLine
    omega
  have e1 := PySem.W.each_map (R := fun v d => ∃ as, PySem.Reads (PySem.W.sortingHeap (h'.push (seqObj "list" acc.toList.toArray 0)) h'.objs.size acc.toList) v d as) id er'
  refine wpAny_bind (wpAny_holding (wpAny_call_entry PyProof.Rows.slot_list_sort ⟨_, hoL, rfl⟩ PyProof.Rows.entry_list_sort
    (PySem.W.list_sort_vals (s := { s with heap := h'.push (seqObj "list" acc.toList.toArray 0), toks := tk }) (κ := PySem.W.dataKind (PySem.W.sortingHeap (h'.push (seqObj "list" acc.toList.toArray 0)) h'.objs.size acc.toList) (l.map id)) hoL ?_ (by rw [hal]; exact hz) ⟨_, rfl, ?_⟩)
    (PyProof.Rows.args_list_sort _)))
  · rcases ok.kind with hk | hk
    · exact PySem.W.SortsAt.data e1 hal2 (by rw [List.map_id]; exact hk) (PySem.W.bound_map hu2)
    · exact PySem.W.SortsAt.tupsX e1 hal2 (by rw [List.map_id]; exact hk) (PySem.W.bound_map hu2)
  · obtain ⟨ys, h1, h2⟩ := of_each (PySem.W.sortVals_data false e0 er' hal2)
    obtain ⟨e', he'⟩ := PyProof.Rows.sortedHeap_at (vs := acc.toList) (out := (PySem.W.sortVals (PySem.W.dataKind (PySem.W.sortingHeap (h'.push (seqObj "list" acc.toList.toArray 0)) h'.objs.size acc.toList) (l.map id)) false acc.toList acc.toList).toArray) hoL
    have hlen : ys.length ≤ sizeLine := by rw [h2.length, List.length_mergeSort, hll, hal]; exact hz
    refine wpAny_pure ⟨_, rfl, .ref h'.objs.size, upd H h'.objs.size (.lst ys), I1.laid (t' := tk) (fun b u e => ?_) (Nat.le_refl _)
      (show ObjOk X.prog X.w _ _ _ (.lst ys) from ⟨hlen, _, e', h1, by simpa using he'⟩), rfl, q ys _ (I1.hok.fresh (Nat.le_refl _)) h2⟩
    have hb : b < h'.objs.size := Heap.lt_size e
    rw [PyProof.Rows.sortedHeap_old (Nat.ne_of_lt hb) (by rw [size_push']; exact Nat.lt_succ_of_lt hb)]
    exact Heap.get?_push_of_some _ e
end
end DL
end DLs
section DLt
set_option Elab.async false
set_option linter.all false
set_option maxRecDepth 100000
set_option maxHeartbeats 1000000
/-! DLt: dicts by data -/
namespace DL
open PySem PySem.Spec PyProof.Rows L2

/-! ### keys -/
mutual
inductive NkD : PyData → NestedKey → Prop
  | num (i : Int) : NkD (.int i) (.num i)
  | text (x : Str) : NkD (.str x) (.text x)
  | tup {ds : List PyData} {ks : List NestedKey} : NkDs ds ks → NkD (.tuple ds) (.tup ks)
inductive NkDs : List PyData → List NestedKey → Prop
  | nil : NkDs [] []
  | cons {d : PyData} {ds : List PyData} {k : NestedKey} {ks : List NestedKey} : NkD d k → NkDs ds ks → NkDs (d :: ds) (k :: ks)
end
mutual
def nkOf : PyData → NestedKey
  | .int i => .num i
  | .str x => .text x
  | .tuple ds => .tup (nkAll ds)
  | _ => .none
def nkAll : List PyData → List NestedKey
  | [] => []
  | d :: ds => nkOf d :: nkAll ds
end
mutual
def dOf : NestedKey → PyData
  | .none => .none
  | .num i => .int i
  | .text x => .str x
  | .tup ks => .tuple (dAll ks)
def dAll : List NestedKey → List PyData
  | [] => []
  | k :: ks => dOf k :: dAll ks
end
theorem nkAll_map (ds : List PyData) : nkAll ds = ds.map nkOf := by
  induction ds with
  | nil => simp [nkAll]
  | cons d ds ih => rw [nkAll, ih, List.map_cons]
theorem dAll_map (ks : List NestedKey) : dAll ks = ks.map dOf := by
  induction ks with
  | nil => simp [dAll]
  | cons d ds ih => rw [dAll, ih, List.map_cons]
mutual
theorem NkD.back : ∀ {d : PyData} {k : NestedKey}, NkD d k → dOf k = d ∧ nkOf d = k
  | _, _, .num i => by simp [dOf, nkOf]
  | _, _, .text x => by simp [dOf, nkOf]
  | _, _, .tup h => by
    obtain ⟨h1, h2⟩ := NkDs.back h
    simp [dOf, nkOf, h1, h2]
theorem NkDs.back : ∀ {d : List PyData} {k : List NestedKey}, NkDs d k → dAll k = d ∧ nkAll d = k
  | _, _, .nil => by simp [dAll, nkAll]
  | _, _, .cons a t => by
    obtain ⟨h1, h2⟩ := NkD.back a
    obtain ⟨h3, h4⟩ := NkDs.back t
    simp [dAll, nkAll, h1, h2, h3, h4]
end
section
variable {H : Hp}
mutual
theorem NkD.v : ∀ {d : PyData} {k : NestedKey} {v : V}, NkD d k → Dv H v d → NkV H v k
  | _, _, _, .num i, h => by cases h; exact .num i
  | _, _, _, .text i, h => by cases h; exact .text i
  | _, _, _, .tup a, h => by
    cases h with
    | tup e h => exact .tup e (NkDs.v a h)
theorem NkDs.v : ∀ {d : List PyData} {k : List NestedKey} {v : List V}, NkDs d k → DvAll H v d → NkAll H v k
  | _, _, _, .nil, h => by cases h; exact .nil
  | _, _, _, .cons a t, h => by cases h with | cons h hs => exact .cons (NkD.v a h) (NkDs.v t hs)
end
mutual
theorem NkV.d : ∀ {v : V} {k : NestedKey}, NkV H v k → Dv H v (dOf k)
  | _, _, .num i => by rw [dOf]; exact .int i
  | _, _, .text i => by rw [dOf]; exact .str i
  | _, _, .tup e h => by rw [dOf]; exact .tup e (NkAll.d h)
theorem NkAll.d : ∀ {v : List V} {k : List NestedKey}, NkAll H v k → DvAll H v (dAll k)
  | _, _, .nil => by rw [dAll]; exact .nil
  | _, _, .cons a t => by rw [dAll]; exact .cons (NkV.d a) (NkAll.d t)
end
end
/-- d serves as a key -/
structure KeyOk (d : PyData) : Prop where
  tup : ∃ l, d = .tuple l
  nk : NkD d (nkOf d)
  dep : (nkOf d).depth ≤ 8

section
variable {X : Cx} {a b c e o : Expr} {es : List Expr} {Ea Eb Ec E Eo Ei : Et} {pos : Pos}
variable {P : Program} {w : World} {H H' H1 Hs : Hp} {σ : L2.St} {ρ ρ' ρ1 : Sv}
/-! ### contents -/
abbrev ZipD (H : Hp) (kvs : List (NestedKey × PyData)) (vs : List (NestedKey × V)) : Prop := kvs.map (·.1) = vs.map (·.1) ∧ DvAll H (vs.map (·.2)) (kvs.map (·.2))
theorem zip_at {k : NestedKey} : ∀ {kvs : List (NestedKey × PyData)} {vs : List (NestedKey × V)}, ZipD H kvs vs → match kAt kvs k with
    | some d => ∃ z, kAt vs k = some z ∧ Dv H z d
    | none => kAt vs k = none
  | [], [], _ => rfl
  | [], _ :: _, h => by cases h.1
  | _ :: _, [], h => by cases h.1
  | p :: kvs, q :: vs, ⟨h1, h2⟩ => by
    rw [List.map_cons, List.map_cons] at h1
    injection h1 with e1 e2
    have h2' : DvAll H (q.2 :: vs.map (·.2)) (p.2 :: kvs.map (·.2)) := h2
    cases h2' with
    | cons g t =>
      rw [kAt_cons, kAt_cons, ← e1]
      by_cases e : p.1 = k
      · rw [if_pos e, if_pos e]; exact ⟨_, rfl, g⟩
      · rw [if_neg e, if_neg e]; exact zip_at ⟨e2, t⟩
theorem zip_some {k : NestedKey} {kvs : List (NestedKey × PyData)} {vs : List (NestedKey × V)} (h : ZipD H kvs vs) : (kAt vs k).isSome = (kAt kvs k).isSome := by
  have := zip_at h (k := k)
  cases e : kAt kvs k with
  | none => rw [e] at this; rw [show kAt vs k = none from this]; rfl
  | some z => rw [e] at this; obtain ⟨p, e2, _⟩ := this; rw [e2]; rfl
theorem zip_put {k : NestedKey} {d : PyData} {z : V} {kvs : List (NestedKey × PyData)} {vs : List (NestedKey × V)} (h : ZipD H kvs vs) (hz : Dv H z d) : ZipD H (kPut kvs k d) (kPut vs k z) := by
  refine ⟨by rw [kPut_keys, kPut_keys, zip_some h, h.1], ?_⟩
  unfold kPut
  rw [zip_some h]
  by_cases e : (kAt kvs k).isSome = true
  · rw [if_pos e, if_pos e]
    clear e
    obtain ⟨h1, h2⟩ := h
    induction kvs generalizing vs with
    | nil =>
      cases vs with
      | nil => exact .nil
      | cons _ _ => cases h1
    | cons p kvs ih =>
      cases vs with
      | nil => cases h1
      | cons q vs =>
        rw [List.map_cons, List.map_cons] at h1
        injection h1 with e1 e2
        have h2' : DvAll H (q.2 :: vs.map (·.2)) (p.2 :: kvs.map (·.2)) := h2
        cases h2' with
        | cons g t =>
          have := ih e2 t
          rw [List.map_cons, List.map_cons, List.map_cons, List.map_cons]
          refine .cons ?_ this
          rw [← e1]
          by_cases e : p.1 = k
          · rw [if_pos e, if_pos e]; exact hz
          · rw [if_neg e, if_neg e]; exact g
  · rw [if_neg e, if_neg e, List.map_append, List.map_append]
    exact h.2.app (.cons hz .nil)
theorem dk_dict (R : Rep P w H σ ρ) {v : V} {x : Dx} (h : Xv P w Hs H σ ρ v x) {kvs : List (NestedKey × PyData)} (e : dkOf ρ x = some kvs) : ∃ a o vs, v = .ref a ∧ ObAt H a o ∧ DictRep P w H a o vs ∧ ZipD H kvs vs := by
  cases x with
  | dat t =>
    cases t with
    | d y => cases e
    | k l =>
      cases e
      obtain ⟨a, ob, o, vs, h1, h2, h3, h4, h5⟩ := h
      exact ⟨a, o, vs, h1, .inr ⟨ob, h2⟩, h3, h4, h5⟩
    | kk _ => cases e
  | own i =>
    have e' := dcAt_some e
    obtain ⟨a, h1, o, vs, h2, h3, h4, h5⟩ := R.own i _ e' rfl
    have h : σ[i]? = some (some v) := h
    rw [h1] at h
    cases h
    exact ⟨a, o, vs, rfl, .inl h2, h3, h4, h5⟩
  | new c =>
    cases c with
    | dat _ => cases e
    | lst _ => cases e
    | dct l =>
      cases e
      obtain ⟨a, rfl, _, ⟨o, vs, h2, h3, h4, h5⟩, _⟩ := h
      exact ⟨a, o, vs, rfl, .inl h2, h3, h4, h5⟩
theorem key_at (R : Rep P w H σ ρ) {v : V} {x : Dx} (h : Xv P w Hs H σ ρ v x) {d : PyData} (e : ddOf ρ x = some d) (hk : KeyOk d) : ∃ b, v = .ref b ∧ NkV H (.ref b) (nkOf d) := by
  obtain ⟨l, rfl⟩ := hk.tup
  obtain ⟨b, xs, rfl, h1, h2⟩ := dd_tup R h e
  exact ⟨b, rfl, hk.nk.v (.tup h1 h2)⟩

/-! ### in, not in -/
def bInD (n : Bool) : Dx → Dx → Et := fun x y ρ Q => ∃ d kvs, ddOf ρ x = some d ∧ dkOf ρ y = some kvs ∧ KeyOk d ∧ Q (.dat (.d (.bool (if n then !(kAt kvs (nkOf d)).isSome else (kAt kvs (nkOf d)).isSome)))) ρ
theorem bi_inD {n : Bool} : BiD X (rInV X.prog X.w n) (bInD n) := by
  rintro σ H Hs ρ x y v u R Q rep hs hx hy ⟨d, kvs, e1, e2, hk, hR⟩ q
  obtain ⟨b, rfl, hb⟩ := key_at rep hx e1 hk
  obtain ⟨a, o, vs, rfl, ho, D, Z⟩ := dk_dict rep hy e2
  refine ⟨a, b, nkOf d, o, vs, rfl, rfl, ho, D, hb, hk.dep, q _ _ ?_⟩
  rw [zip_some Z]
  exact dl_dat rep hR (.bl _)
theorem od_inD (hu : X.A.units + 64 < cLine) : OpD X (compareOp .In) (bInD false) := OpD.ofB (op_inV hu) bi_inD
theorem od_notinD (hu : X.A.units + 64 < cLine) : OpD X (compareOp .NotIn) (bInD true) := OpD.ofB (op_notinV hu) bi_inD
/-! ### d[k] -/
def bIxD : Dx → Dx → Et := fun x y ρ Q => ∃ d, ddOf ρ y = some d ∧ KeyOk d ∧ ((∃ kvs z, dkOf ρ x = some kvs ∧ kAt kvs (nkOf d) = some z ∧ Q (.dat (.d z)) ρ) ∨ ∃ kvs ks, x = .dat (.kk kvs) ∧ kAt kvs (nkOf d) = some ks ∧ Q (.dat (.k (trues ks))) ρ)
/-- d[k], by values, of an own or locked dict -/
theorem ix_V (hu : X.A.units + 64 < cLine) : IxR X (rGetV X.prog X.w) := by
  intro value slice pins s σ H y x u v Q I ry rx ⟨a, b, k, o, vs, z, hx, hy, ho, D, hk, hd, hz, q⟩ hs
  subst hx hy
  obtain rfl : v = .ref b := rx
  obtain rfl : u = .ref a := ry
  obtain ⟨xs, hm, hp⟩ := dict_of I ho D
  have := kv_at hp k
  rw [hz] at this
  obtain ⟨p, e, r⟩ := this
  exact subscriptTail_builtinR (x := p.2) hm.typeIs PySem.F.slot_dict_getitem.lookup (wpAny_getItem_heap (knd := nestedKind X.prog X.w) (room1 hu) ⟨nk_is I _ _ _ hk rfl, hd⟩ hm e ⟨rfl, z, H, I.tok _, r, q⟩) hs
theorem fz_at {k : NestedKey} : ∀ {kvs : List (NestedKey × List NestedKey)} {vs : List (NestedKey × V)} {ks : List NestedKey}, kvs.map (·.1) = vs.map (·.1) → FzAll P w H (vs.map (·.2)) (kvs.map (·.2)) → kAt kvs k = some ks → ∃ z, kAt vs k = some z ∧ FzK P w H z (trues ks)
  | [], _, _, _, _, h => by cases h
  | _ :: _, [], _, h, _, _ => by cases h
  | p :: kvs, q :: vs, ks, h1, h2, h => by
    rw [List.map_cons, List.map_cons] at h1
    injection h1 with e1 e2
    have h2' : FzAll P w H (q.2 :: vs.map (·.2)) (p.2 :: kvs.map (·.2)) := h2
    cases h2' with
    | cons g t =>
      rw [kAt_cons] at h
      rw [kAt_cons, ← e1]
      by_cases e : p.1 = k
      · rw [if_pos e] at h
        rw [if_pos e]
        cases h
        exact ⟨_, rfl, g⟩
      · rw [if_neg e] at h
        rw [if_neg e]
        exact fz_at e2 t h
theorem de_ixD (hu : X.A.units + 64 < cLine) (ha : DE X a Ea) (hb : DE X b Eb) (hs : PlainIx b := by exact fun _ _ => rfl) : DE X (.Subscript a b pos) (eBin Ea Eb bIxD) := by
  refine PE.imp (pe_ix (ix_V hu) ha hb hs) fun σ H Q h => rd_bin ?_ h
  rintro σ H Hs ρ x y v u R Q rep hs hx hy ⟨d, e1, hk, hR⟩ q
  obtain ⟨b, rfl, hb⟩ := key_at rep hy e1 hk
  rcases hR with ⟨kvs, z, e2, e3, hR⟩ | ⟨kvs, ks, e2, e3, hR⟩
  · obtain ⟨a, o, vs, rfl, ho, D, Z⟩ := dk_dict rep hx e2
    have := zip_at Z (k := nkOf d)
    rw [e3] at this
    obtain ⟨zz, g1, g2⟩ := this
    exact ⟨a, b, nkOf d, o, vs, zz, rfl, rfl, ho, D, hb, hk.dep, g1, q _ _ (dl_dat rep hR g2)⟩
  · subst e2
    obtain ⟨a, ob, o, vs, h1, h2, h3, h4, h5⟩ := hx
    obtain ⟨zz, g1, g2⟩ := fz_at h4 h5 e3
    exact ⟨a, b, nkOf d, o, vs, zz, rfl, h1, .inr ⟨ob, h2⟩, h3, hb, hk.dep, g1, q _ _ ⟨_, ρ, hR, Le.refl _ _, rep, g2⟩⟩
/-! ### d[k] = x -/
def ownD (ρ : Sv) : Dx → Option (Nat × List (NestedKey × PyData))
  | .own i => match ρ[i]? with
    | some (some (.dct l)) => some (i, l)
    | _ => none
  | _ => none
theorem ownD_some {x : Dx} {i : Nat} {l : List (NestedKey × PyData)} (h : ownD ρ x = some (i, l)) : x = .own i ∧ ρ[i]? = some (some (.dct l)) := by
  unfold ownD at h
  split at h
  · split at h
    · rename_i e
      cases h
      exact ⟨rfl, e⟩
    · cases h
  · cases h
def sPutD (E Eo Ei : Et) : Stt := fun ρ R => E ρ fun x ρ1 => ∃ d, dats [x] = some [d] ∧ Eo ρ1 fun y ρ2 => ∃ i l, ownD ρ2 y = some (i, l) ∧ Ei ρ2 fun z ρ3 => ∃ (k : PyData) (l3 : List (NestedKey × PyData)), ddOf ρ3 z = some k ∧ KeyOk k ∧ dcAt ρ3 i = some l3 ∧ l3.length < 100000 ∧ R.nx (ρ3.set i (some (.dct (kPut l3 (nkOf k) d))))
/-- the own dict at slot i turned -/
theorem dict_put {i : Nat} {p : Addr} {o o' : Obj} {l l' : List (NestedKey × PyData)} {vs' : List (NestedKey × V)} (rep : Rep P w H σ ρ) (hi : ρ[i]? = some (some (.dct l))) (hp : σ[i]? = some (some (.ref p))) (hx : H p = some (.ext (objIs p o)))
    (D : DictRep P w (upd H p (.ext (objIs p o'))) p o' vs') (Z : ZipD H l' vs') : Rep P w (upd H p (.ext (objIs p o'))) σ (ρ.set i (some (.dct l'))) ∧ Le (ownA σ ρ) H (ownA σ (ρ.set i (some (.dct l')))) (upd H p (.ext (objIs p o'))) := by
  have hu : (∃ xs, H p = some (.lst xs)) ∨ ∃ φ, H p = some (.ext φ) := .inr ⟨_, hx⟩
  exact ⟨rep.put hi rfl rfl hp hu ⟨o', vs', upd_same, D, Z.1, Z.2.keep (kp_put hu)⟩, Le.put hi rfl rfl hp (by rw [hx]; simp)⟩
theorem ds_putD {i : Expr} {tpos : Pos} (hu : X.A.units + 64 < cLine) (he : DE X e E) (ho : DE X o Eo) (hi : DE X i Ei) (hs : swapsWithSole [.Subscript o i tpos] e pos.line X.env = pure false := by rfl) (hw : swappedStores [.Subscript o i tpos] e X.env = pure none := by rfl)
    (h1 : (assignEach [.Subscript o i tpos] X.env).map (·.2) = [assign (.Subscript o i tpos) X.env] := by rfl)
    (ha : ∀ v, assign (.Subscript o i tpos) X.env v = (do let ov ← holding [v] (eval o X.env); let iv ← holding [v, ov] (eval i X.env); standAt tpos; holding [v, ov, iv] (setItem ov iv v); release [v, ov, iv] []) := by intro _; rfl) :
    DS X (.Assign [.Subscript o i tpos] e pos) (sPutD E Eo Ei) :=
  PS.imp (ps_asg he (pg_sub ho hi (set_V hu) ha) hs hw h1) fun D σ H ⟨ρ, R, rep, hE, t⟩ => by
    refine ⟨ρ, _, rep, hE, fun z1 H1 ⟨x, ρ1, ⟨d, hd, k1⟩, le1, rep1, x1⟩ => ⟨ρ1, _, rep1, k1, fun z2 H2 ⟨y, ρ2, ⟨k, l, hk, k2⟩, le2, rep2, x2⟩ => ⟨ρ2, _, rep2, k2, fun z3 H3 ⟨z, ρ3, ⟨kd, l3, hj, hkk, hl, hlt, k3⟩, le3, rep3, x3⟩ => ?_⟩⟩⟩
    obtain ⟨rfl, _⟩ := ownD_some hk
    have hk3 := dcAt_some hl
    obtain ⟨p, hp, oo, vs, hxs, D3, Z1, Z2⟩ := rep3.own k _ hk3 rfl
    have x2 : σ[k]? = some (some z2) := x2
    rw [hp] at x2
    cases x2
    have dv : Dv H3 z1 d := by
      have q := (dats_all hd).dv (XvAll.one' ((x1.keep rep1 le2).keep rep2 le3))
      cases q with | cons q _ => exact q
    obtain ⟨b, rfl, hb⟩ := key_at rep3 x3 hj hkk
    have hlen : vs.length < 100000 := by
      have := congrArg List.length Z1
      rw [List.length_map, List.length_map] at this
      omega
    refine ⟨p, b, nkOf kd, oo, vs, rfl, rfl, hxs, D3, hlen, hb, hkk.dep, fun o' D' => ?_⟩
    obtain ⟨r4, l4⟩ := dict_put rep3 hk3 hp hxs D' (zip_put (k := nkOf kd) ⟨Z1, Z2⟩ dv)
    exact t.nx _ σ _ k3 (.of (((le1.trans le2).trans le3).trans l4)) r4
/-- d[k] op= x -/
def sAugD (Eo Ei E : Et) (f : Int → Int → Int) : Stt := fun ρ R => Eo ρ fun y ρ1 => ∃ i l, ownD ρ1 y = some (i, l) ∧ Ei ρ1 fun z ρ2 => ∃ (k : PyData) (l2 : List (NestedKey × PyData)) (m : Int), ddOf ρ2 z = some k ∧ KeyOk k ∧ dcAt ρ2 i = some l2 ∧ kAt l2 (nkOf k) = some (.int m) ∧
  E ρ2 fun x ρ3 => ∃ (n : Int) (l3 : List (NestedKey × PyData)), ddOf ρ3 x = some (.int n) ∧ dcAt ρ3 i = some l3 ∧ l3.length < 100000 ∧ R.nx (ρ3.set i (some (.dct (kPut l3 (nkOf k) (.int (f m n))))))
theorem ds_augD {i : Expr} {tpos : Pos} {op : Operator} {f : Int → Int → Int} (hu : X.A.units + 64 < cLine) (hp : PIp X op (ipI f)) (ho : DE X o Eo) (hi : DE X i Ei) (he : DE X e E)
    (ha : ∀ ov iv new, augStore i ov iv new = (do holding [new, ov, iv] (setItem ov iv new); release [new, ov, iv] []; pure .next) := by intros; rfl) : DS X (.AugAssign (.Subscript o i tpos) op e pos) (sAugD Eo Ei E f) :=
  PS.imp (ps_augS ho hi (get_V hu) he hp (set_V hu) ha) fun D σ H ⟨ρ, R, rep, hE, t⟩ => by
    refine ⟨ρ, _, rep, hE, fun z1 H1 ⟨y, ρ1, ⟨k, l, hk, k1⟩, le1, rep1, x1⟩ => ⟨ρ1, _, rep1, k1, fun z2 H2 ⟨z, ρ2, ⟨kd, l2, m, hj, hkk, hl, hm, k2⟩, le2, rep2, x2⟩ => ?_⟩⟩
    obtain ⟨rfl, _⟩ := ownD_some hk
    have hk2 := dcAt_some hl
    obtain ⟨p, hp, oo, vs, hxs, D2, Z1, Z2⟩ := rep2.own k _ hk2 rfl
    have x1 : σ[k]? = some (some z1) := x1
    rw [hp] at x1
    cases x1
    obtain ⟨b, rfl, hb⟩ := key_at rep2 x2 hj hkk
    have := zip_at ⟨Z1, Z2⟩ (k := nkOf kd)
    rw [hm] at this
    obtain ⟨zz, g1, g2⟩ := this
    cases g2
    refine ⟨p, b, nkOf kd, oo, vs, _, rfl, rfl, .inl hxs, D2, hb, hkk.dep, g1, ρ2, _, rep2, k2, fun z3 H3 ⟨x, ρ3, ⟨n, l3, hn, hl3, hlt, k3⟩, le3, rep3, x3⟩ => ?_⟩
    have hk3 := dcAt_some hl3
    obtain ⟨p', hp', oo3, vs3, hxs3, D3, Y1, Y2⟩ := rep3.own k _ hk3 rfl
    rw [hp] at hp'
    cases hp'
    have hb3 : NkV H3 (.ref b) (nkOf kd) := hb.keep (rep2.kp le3)
    have hlen : vs3.length < 100000 := by
      have := congrArg List.length Y1
      rw [List.length_map, List.length_map] at this
      omega
    refine ⟨m, n, rfl, dd_int rep3 x3 hn, p, b, nkOf kd, oo3, vs3, rfl, rfl, hxs3, D3, hlen, hb3, hkk.dep, fun o' D' => ?_⟩
    obtain ⟨r4, l4⟩ := dict_put rep3 hk3 hp hxs3 D' (zip_put (k := nkOf kd) ⟨Y1, Y2⟩ (.int (f m n)))
    exact t.nx _ σ _ k3 (.of (((le1.trans le2).trans le3).trans l4)) r4
/-! ### {}, len, get, sorted, for -/
def eNewD : Et := fun ρ Q => Q (.new (.dct [])) ρ
theorem de_dict0 : DE X (.Dict [] [] pos) eNewD := PE.imp pe_newV fun σ H Q ⟨ρ, R, rep, hR, q⟩ p o hp D => q _ _
  ⟨_, ρ, hR, Le.laid hp, rep.laid hp, p, rfl, rfl, ⟨o, [], upd_same, D, rfl, .nil⟩, hp, fun m => rep.tracked m hp⟩
def cLenD : List Dx → Et := fun xs ρ Q => ∃ x, xs = [x] ∧ ((∃ kvs, dkOf ρ x = some kvs ∧ Q (.dat (.d (.int kvs.length))) ρ) ∨ ∃ kvs, x = .dat (.kk kvs) ∧ Q (.dat (.d (.int kvs.length))) ρ)
theorem ca_lenD : CaD X (rLenV X.prog X.w) cLenD := by
  rintro σ H Hs ρ vs xs R Q rep hs hx ⟨x, rfl, h⟩ q
  obtain ⟨v, rfl, hv⟩ := hx.one
  rcases h with ⟨kvs, e, hR⟩ | ⟨kvs, rfl, hR⟩
  · obtain ⟨a, o, vs, rfl, ho, D, Z⟩ := dk_dict rep hv e
    have := congrArg List.length Z.1
    rw [List.length_map, List.length_map] at this
    rw [this] at hR
    exact ⟨a, o, vs, rfl, ho, D, q _ _ (dl_dat rep hR (.int _))⟩
  · obtain ⟨a, ob, o, vs, h1, h2, h3, h4, h5⟩ := hv
    have := congrArg List.length h4
    rw [List.length_map, List.length_map] at this
    rw [this] at hR
    exact ⟨a, o, vs, by rw [h1], .inr ⟨ob, h2⟩, h3, q _ _ (dl_dat rep hR (.int _))⟩
theorem de_lenD {x p} {A : At} (hx : x = ("len" : Str)) (hg : Gl X x) (hm : X.mg "len" = none) (ha : DA X (e :: es) A) (he : starEach (e :: es) X.env = (false, eval e X.env) :: starEach es X.env := by rfl) (hpl : (backTo pos (starEach es X.env)).any (·.1) = false := by rfl) :
    DE X (.Call (.Name x p) (e :: es) [] pos) (eCall A cLenD) := by
  subst hx
  exact de_callB ca_lenD call_lenV hg hm PySem.boot_len ha (by decide) (by decide) he hpl
def keysD (kvs : List (NestedKey × PyData)) : List PyData := kvs.map fun x => dOf x.1
def cSrtD : List Dx → Et := fun xs ρ Q => ∃ x kvs, xs = [x] ∧ dkOf ρ x = some kvs ∧ SrtOk (keysD kvs) ∧ Q (.new (.lst (srtD (keysD kvs)))) ρ
theorem ca_srtD : CaD X (rSrtV X.prog X.w) cSrtD := by
  rintro σ H Hs ρ vs xs R Q rep hs hx ⟨x, kvs, rfl, e, ok, hR⟩ q
  obtain ⟨v, rfl, hv⟩ := hx.one
  obtain ⟨a, o, vs, rfl, ho, D, Z⟩ := dk_dict rep hv e
  refine ⟨a, o, vs, keysD kvs, rfl, ho, D, fun H1 k zs hz => ?_, ok, fun zs p hp hz => q _ _ (dl_new rep hR hp (hs p hp) hz)⟩
  have := NkAll.d hz
  rw [dAll_map, ← Z.1, List.map_map] at this
  exact this
theorem de_sortedD {x : Str} {p : Pos} {A : At} {k : Nat} (hr : RoomG k X.A) (hx : x = ("sorted" : Str)) (hc : X.calm = true) (hg : Gl X x) (hm : X.mg "sorted" = none) (ha : DA X (e :: es) A) (he : starEach (e :: es) X.env = (false, eval e X.env) :: starEach es X.env := by rfl) (hpl : (backTo pos (starEach es X.env)).any (·.1) = false := by rfl) :
    DE X (.Call (.Name x p) (e :: es) [] pos) (eCall A cSrtD) := by
  subst hx
  exact de_callB ca_srtD (cr_srtV hc hr.hu) hg hm (by decide +kernel) ha (by decide) (by decide) he hpl
/-- for k in d, d locked -/
def wKeys (E : Et) : Wt := fun ρ Q => E ρ fun x ρ1 => (∃ kvs, x = .dat (.k kvs) ∧ Q (keysD kvs) ρ1) ∨ ∃ kvs : List (NestedKey × List NestedKey), x = .dat (.kk kvs) ∧ Q (kvs.map fun x => dOf x.1) ρ1
theorem itn_d {d : Addr} {ob o : Obj} {vs : List (NestedKey × V)} (e : H d = some (.frz ob (.ext (objIs d o)))) (D : DictRep P w H d o vs) : ItD (Itn P w d o vs) H (vs.map fun x => dOf x.1) where
  go := fun i y H' hi k => by
    rw [List.getElem?_map] at hi
    obtain ⟨p, h1, rfl⟩ := Option.map_eq_some_iff.mp hi
    refine ⟨⟨⟨ob, k.frz _ _ _ e⟩, D.keep k, (List.getElem?_eq_some_iff.mp h1).1⟩, fun x H'' ⟨e1, k', q', e2, e3, e4⟩ => ?_⟩
    subst e1 e3
    rw [List.getElem?_map, h1] at e2
    cases e2
    exact ⟨fun _ _ q => q, fun _ q => q, e4.d⟩
  stop := fun H' k => ⟨⟨ob, k.frz _ _ _ e⟩, D.keep k, by rw [List.length_map]; exact Nat.le_refl _⟩
theorem di_keys {tg : Expr} (h : DE X e E) : DI X tg e (wKeys E) := by
  refine PI.imp (pi_nk h) fun pins s σ H Rr I ⟨ρ, R, rep, hE, q⟩ => ⟨ρ, _, rep, hE, fun z H1 ⟨x, ρ1, hR, le1, rep1, x1⟩ => ?_⟩
  rcases hR with ⟨kvs, rfl, hR⟩ | ⟨kvs, rfl, hR⟩
  · obtain ⟨a, ob, o, vs, h1, h2, h3, h4, h5⟩ := x1
    have e : keysD kvs = vs.map fun x => dOf x.1 := by
      have := congrArg (List.map dOf) h4
      rw [List.map_map, List.map_map] at this
      exact this
    rw [e] at hR
    exact ⟨a, o, vs, h1, ⟨ob, h2⟩, h3, q _ ρ1 H1 _ hR le1 rep1 (by rw [List.length_map]; exact h3.2.1) (itn_d h2 h3)⟩
  · obtain ⟨a, ob, o, vs, h1, h2, h3, h4, h5⟩ := x1
    have e : (kvs.map fun x => dOf x.1) = vs.map fun x => dOf x.1 := by
      have := congrArg (List.map dOf) h4
      rw [List.map_map, List.map_map] at this
      exact this
    rw [e] at hR
    exact ⟨a, o, vs, h1, ⟨ob, h2⟩, h3, q _ ρ1 H1 _ hR le1 rep1 (by rw [List.length_map]; exact h3.2.1) (itn_d h2 h3)⟩
end
end DL
end DLt
section DLu
set_option Elab.async false
set_option linter.all false
set_option maxRecDepth 100000
set_option maxHeartbeats 1000000
/-! DLu: {k: v}, d.get(k) -/
namespace DL
open PySem PySem.Spec PyProof.Rows L2
section
variable {X : Cx} {a b c e o k : Expr} {es : List Expr} {Ea Eb Ec E Eo Ei Ek : Et} {pos : Pos}
variable {P : Program} {w : World} {H H' H1 Hs : Hp} {σ : L2.St} {ρ ρ' ρ1 : Sv}
/-- {k: v} -/
def eDict1 (Ek E : Et) : Et := fun ρ Q => Ek ρ fun x ρ1 => E ρ1 fun y ρ2 => ∃ kd d, ddOf ρ2 x = some kd ∧ KeyOk kd ∧ dats [y] = some [d] ∧ Q (.new (.dct [(nkOf kd, d)])) ρ2
theorem de_dict1 (hu : X.A.units + 64 < cLine) (hk : DE X k Ek) (he : DE X e E) (hsh : (evalEachOpt [some k] X.env).zip ((evalEach [e] X.env).map fun v => do let x ← v; standAt pos; pure x) = [(some (eval k X.env), do let x ← eval e X.env; standAt pos; pure x)] := by rfl) :
    DE X (.Dict [some k] [e] pos) (eDict1 Ek E) := by
  refine ⟨fun pins s σ H Q I ⟨ρ, R, rep, hE, q⟩ => ?_⟩
  have hn := I.hok.fresh (Nat.le_refl s.heap.objs.size)
  have hm0 := Heap.DictOfH.new (knd := nestedKind X.prog X.w) s.heap
  obtain ⟨o0, ho0, D0⟩ := of_dict (P := X.prog) (w := X.w) (H := upd H s.heap.objs.size (.ext (objIs s.heap.objs.size { cls := .type "dict", data := .dict #[] }))) hm0 .nil (Nat.zero_le _) (beq_eq_false_iff_ne.mpr (Ne.symm (Nat.ne_of_lt I.big)))
  have e0 : (s.heap.push { cls := .type "dict", data := .dict #[] }).get? s.heap.objs.size = some { cls := .type "dict", data := .dict #[] } := Heap.get?_push_size _ rfl
  rw [e0] at ho0
  cases ho0
  have I1 := I.laid (a := s.heap.objs.size) (o := .ext (objIs s.heap.objs.size { cls := .type "dict", data := .dict #[] })) (h' := s.heap.push { cls := .type "dict", data := .dict #[] }) (t' := s.toks) (fun _ _ q => Heap.get?_push_of_some _ q) (Nat.le_refl _) (extOk e0)
  have rep1 := rep.laid (o := .ext (objIs s.heap.objs.size { cls := .type "dict", data := .dict #[] })) hn
  have le1 : Le (ownA σ ρ) H (ownA σ ρ) (upd H s.heap.objs.size (.ext (objIs s.heap.objs.size { cls := .type "dict", data := .dict #[] }))) := Le.laid hn
  rw [arm_eval_Dict, hsh]
  have hd : dictDisplay [(some (eval k X.env), do let x ← eval e X.env; standAt pos; pure x)] = (do let d ← subDict [(eval k X.env, do let x ← eval e X.env; standAt pos; pure x)]; pure (.ref d)) := dictDisplay_pairs [(eval k X.env, do let x ← eval e X.env; standAt pos; pure x)] (by simp) (by simp)
  rw [hd]
  refine wpAny_bind (wpAny_standAt (wpAny_bind (wpAny_subDictH (knd := nestedKind X.prog X.w) (Q := fun d s' => wpAny (model X.prog X.w) X.A (pure (Value.ref d)) (EP X pins σ Q) X.xe s') (room0 hu) (by simp) ?_)))
  unfold evalPairs
  refine wpAny_bind (thn (run1 hk I1 rep1 hE) fun v s1 ⟨z, x, ρ1, H1, B1, r1, k1, x1⟩ => ?_)
  refine wpAny_bind (wpAny_holding (wpAny_bind (thn (run1 he B1.inv B1.rep k1) fun u s2 ⟨z2, y, ρ2, H2, B2, r2, ⟨kd, d, hkd, hko, hd, hR⟩, x2⟩ => wpAny_bind (wpAny_standAt (wpAny_pure ?_)))))
  refine wpAny_bind (wpAny_holding ?_)
  unfold evalPairs
  refine wpAny_pure (wpAny_pure ?_)
  have L12 := B1.le.trans B2.le
  obtain ⟨b, rfl, hb⟩ := key_at B2.rep (x1.keep B1.rep B2.le) hkd hko
  obtain rfl : v = .ref b := r1
  have dv : Dv H2 z2 d := by
    have q := (dats_all hd).dv (XvAll.one' x2)
    cases q with | cons q _ => exact q
  have hp2 : H2 s.heap.objs.size = some (.ext (objIs s.heap.objs.size { cls := .type "dict", data := .dict #[] })) := L12.keep _ _ upd_same fun m => rep.tracked m hn
  have kp : Kp _ H2 := rep1.kp L12
  obtain ⟨xs, hm, hpd⟩ := dict_of B2.inv (.inl hp2) (D0.keep kp)
  cases hpd
  refine ⟨[(nkOf kd, b, u)], ⟨rfl, rfl, ⟨nk_is B2.inv _ _ _ hb rfl, hko.dep⟩, True.intro⟩, hm, fun h' tk hm' hs => wpAny_pure ?_⟩
  have hpz : Paired (KvR H2) [(nkOf kd, z2)] (storedAllH [] [(nkOf kd, b, u)]) := .cons ⟨rfl, ⟨hb, hko.dep⟩, r2⟩ .nil
  obtain ⟨o', ho', D'⟩ := of_dict (P := X.prog) (w := X.w) hm' hpz (by show 1 ≤ sizeLine; decide) D0.2.2.1
  have kp3 : Kp H2 (upd H2 s.heap.objs.size (.ext (objIs s.heap.objs.size o'))) := kp_put (.inr ⟨_, hp2⟩)
  have I3 : Inv X pins σ (upd H2 s.heap.objs.size (.ext (objIs s.heap.objs.size o'))) { s2 with heap := h', toks := tk } := d_write B2.inv (by rw [hp2]; trivial) hs ⟨_, ho'⟩ (extOk ho')
  have nown : ¬ ownA σ ρ2 s.heap.objs.size := fun m => by
    rcases L12.new _ m with h | h
    · exact rep.tracked h hn
    · rw [upd_same] at h; cases h
  have hu' : (∃ xs, H2 s.heap.objs.size = some (.lst xs)) ∨ ∃ φ, H2 s.heap.objs.size = some (.ext φ) := .inr ⟨_, hp2⟩
  refine ⟨.ref s.heap.objs.size, _, I3, rfl, q _ _ ⟨_, ρ2, hR, ?_, ?_, s.heap.objs.size, rfl, rfl, ⟨o', [(nkOf kd, z2)], upd_same, D'.keep kp3, rfl, .cons (dv.keep kp3) .nil⟩, hn, nown⟩⟩
  · refine ⟨fun b o e n => ?_, fun b e => ?_, fun b m => ?_⟩
    · have hbn : b ≠ s.heap.objs.size := fun z => by rw [z, hn] at e; cases e
      rw [upd_ne hbn]
      exact (le1.trans L12).keep b o e n
    · by_cases hb : b = s.heap.objs.size
      · rw [hb]; exact hn
      · rw [upd_ne hb] at e
        exact (le1.trans L12).trk b e
    · exact (le1.trans L12).new b m
  · refine B2.rep.of kp3 fun b m => ?_
    exact upd_ne fun z => nown (by rw [← z]; exact m)
/-- d.get(k) -/
def eGetD (E : Et) (A : At) : Et := fun ρ Q => E ρ fun x ρ1 => (∃ kvs, x = .dat (.k kvs) ∧ A ρ1 fun ys ρ2 => ∃ kd, dats ys = some [kd] ∧ KeyOk kd ∧ Q (.dat (.d ((kAt kvs (nkOf kd)).getD .none))) ρ2)
theorem de_getD {apos : Pos} {name : Str} {A : At} (hu : X.A.units + 64 < cLine) (hn : name = "get") (ho : DE X o E) (ha : DA X [e] A)
    (hbase : attributeBase o name X.env (eval o X.env) = eval o X.env := by rfl)
    (hfew : ((backTo pos (starEach [e] X.env)).all (fun x => !x.1) && (backToKw pos (keywordEach [] X.env)).all (fun x => x.1.isSome)
      && decide (([e] : List Expr).length + ([] : List Keyword).length + (if ([] : List Keyword).isEmpty then 0 else 1) < 30)) = true := by rfl)
    (hline : (apos.endLine == pos.line) = true := by rfl) (hs : starEach [e] X.env = (false, eval e X.env) :: starEach [] X.env := by rfl) (hplain : (backTo pos (starEach [] X.env)).any (·.1) = false := by rfl) :
    DE X (.Call (.Attribute o name apos) [e] [] pos) (eGetD E A) := by
  subst hn
  refine ⟨fun pins s σ H Q I ⟨ρ, R, rep, hE, q⟩ => ?_⟩
  refine wpAny_Call_method_late hbase hfew hline rfl (thn (run1 ho I rep hE) fun v s1 ⟨z, x, ρ1, H1, B1, r1, ⟨kvs, ex, k1⟩, x1⟩ => ?_)
  subst ex
  obtain ⟨a, ob, o1, vs, h1, h2, h3, h4, h5⟩ := x1
  subst h1
  obtain rfl : v = .ref a := r1
  have hg := ObAt.get (.inr ⟨ob, h2⟩) B1.inv
  have hx : o1.ExactDict := h3.1
  refine ⟨"dict", "dict.get", PySem.F.plainAttrs_dict, PySem.F.slot_dict_get, PySem.F.type_dict_get, ⟨o1, hg, hx.1⟩, fun b eb => by cases eb; exact ⟨o1, hg, hx.2.1⟩, ?_⟩
  have hA := ha.run pos pins s1 σ H1 (fun ws H2 => rGet1V X.prog X.w (.ref a) ws H2 Q) B1.inv ⟨ρ1, _, B1.rep, k1, fun ws H2 ys ρ2 ⟨kd, hd, hk, hR⟩ le2 rep2 hx2 => ?_⟩
  · rw [hs] at hA ⊢
    refine Calls.callWith_builtin (by show (false || (backTo pos (starEach [] X.env)).any (·.1)) = false; rw [hplain] <;> rfl) (Calls.evalArgs_plain ?_)
    exact thn hA fun us s2 ⟨vs, H2, I2, r2, q2⟩ => mt_getV hu pins s2 σ H2 (.ref a) vs (.ref a) us Q I2 rfl r2 q2
  · have kp := B1.rep.kp le2
    have dv := (dats_all hd).dv hx2
    cases dv with
    | cons dv t =>
      cases t
      obtain ⟨l, rfl⟩ := hk.tup
      cases dv with
      | @tup b xs _ e1 e2 =>
        have hz := zip_at (H := H2) (k := nkOf (.tuple l)) ⟨h4, h5.keep kp⟩
        refine ⟨a, b, nkOf (.tuple l), o1, vs, rfl, rfl, .inr ⟨ob, kp.frz _ _ _ h2⟩, h3.keep kp, hk.nk.v (.tup e1 e2), hk.dep, q _ _ ⟨_, ρ2, hR, B1.le.trans le2, rep2, ?_⟩⟩
        cases hz2 : kAt kvs (nkOf (.tuple l)) with
        | none =>
          rw [hz2] at hz
          rw [show kAt vs (nkOf (.tuple l)) = none from hz]
          exact Dv.non
        | some d =>
          rw [hz2] at hz
          obtain ⟨zz, g1, g2⟩ := hz
          rw [g1]
          exact g2
end
end DL
end DLu
section DLv
set_option Elab.async false
set_option linter.all false
set_option maxRecDepth 100000
set_option maxHeartbeats 2000000
/-! DLv: dict comprehensions with one clause and no tests -/
namespace DL
open PySem PySem.Spec PyProof.Rows L2
/-- the loop of a dict comprehension's block, the tuple that goes kept -/
theorem dcLoop {prog : Program} {w : World} {A : Around} {R : Result → Shared → Prop} {s : Shared} {kx vx target iter : Expr} {scope : Scope} {pos : Pos} {it : Value} {D : Addr} {env : Env} (J : Nat → Shared → Prop)
    (turn : ∀ n s, J n s → wpAny (model prog w) A (pyNext it) (fun r s1 => match r with
      | none => R (.ok .next) s1
      | some v => wpAny (model prog w) A (letOwnedTupleGo target it v) (fun _ s2 => wpAny (model prog w) A (assign target env v) (fun _ s3 =>
          wpAny (model prog w) A (eval kx env) (fun kv s4 => wpAny (model prog w) A (eval vx env) (fun vv s5 =>
            wpAny (model prog w) A (dictSet D kv vv) (fun _ s6 => ∃ m, m < n ∧ J m s6) (fun _ _ => False) s5) (fun _ _ => False) s4) (fun _ _ => False) s3) (fun _ _ => False) s2) (fun _ _ => False) s1) (fun _ _ => False) s)
    (n : Nat) (h : J n s) : codeAny (model prog w) A (.compLoop (.DictComp kx vx [⟨target, iter, [], 0⟩] scope pos) 0 it (.ref D) env) R s := by
  refine codeAny_loop rfl J (fun n s hJ => ?_) n h
  show wpAny _ A ((compTurn (.DictComp kx vx [⟨target, iter, [], 0⟩] scope pos) 0 it (.ref D) env).onRaise fun x => do noteFrame x env; theTreesLotGoes x) _ _ s
  refine wpAny_noted ?_
  rw [compTurn_dict]
  refine wpAny_bind (wpAny_standAt (wpAny_bind (thnF (turn n s hJ) fun r s1 h1 => ?_)))
  cases r with
  | none => exact wpAny_pure h1
  | some v =>
    refine wpAny_bind (thnF h1 fun _ s2 h2 => ?_)
    refine wpAny_bind (thnF h2 fun _ s3 h3 => ?_)
    refine wpAny_bind (wpAny_tests_nil ?_)
    refine wpAny_bind (wpAny_bind (thnF h3 fun kv s4 h4 => wpAny_bind (wpAny_holding (thnF h4 fun vv s5 h5 => ?_))))
    refine wpAny_bind (wpAny_standAt (wpAny_holding (thnF h5 fun _ s6 h6 => ?_)))
    exact wpAny_pure ⟨rfl, h6⟩
section
variable {X : Cx}
/-- {k: x for target in iter}: D the new dict -/
def tDc (P : Program) (w : World) (wi : TI) (g : TG) (tk tv : TE) (vs : List Nat) : TE := fun σ H Q => wi σ H fun J H1 => ∀ D o, H1 D = none → DictRep P w (upd H1 D (.ext (objIs D o))) D o [] →
  ∃ W : Nat → Nat → Hp → Prop, (∃ m, W 0 m (upd H1 D (.ext (objIs D o)))) ∧ ∀ i m H, W i m H →
    (J.stop i H ∧ Q (.ref D) H) ∨ (J.go i H ∧ ∃ Nx : Hp → Prop, (∀ H', Nx H' → ∃ m', m' < m ∧ W (i + 1) m' H') ∧ ∀ x H', J.yld i H x H' → g x (wipe σ vs) H' fun σ2 H2 => wipe σ2 vs = wipe σ vs ∧ tk σ2 H2 fun k H3 => tv σ2 H3 fun y H4 =>
      ∃ b kk o1 us, k = .ref b ∧ NkV H4 (.ref b) kk ∧ kk.depth ≤ 8 ∧ H4 D = some (.ext (objIs D o1)) ∧ DictRep P w H4 D o1 us ∧ us.length < 100000 ∧ ∀ o2, DictRep P w (upd H4 D (.ext (objIs D o2))) D o2 (kPut us kk y) → Nx (upd H4 D (.ext (objIs D o2))))
theorem dc_core {pins : List (Addr × Obj)} {s : Shared} {σ : L2.St} {H : Hp} {Q : VK} {kx vx tg iter : Expr} {scope : Scope} {own : List (Str × Nat)} {pos pos' : Pos} {wi : TI} {g : TG} {tk tv : TE} {use : Option (Value → Sem Unit)} {Qf : Value → Shared → Prop}
    (hu : X.A.units + 64 < cLine) (hc : X.calm = true) (hN : X.N.Nodup) (hi : PI X tg iter wi) (ok : BlkOk X.N X.env.scope scope own)
    (hg : ∀ (s : Shared) (H : Hp) (C : Addr) (cl : List (Str × Addr)) (fp : List Addr), PG (X.blk s H scope (compEnvC scope cl C X.env) fp) tg g)
    (hk : ∀ (s : Shared) (H : Hp) (C : Addr) (cl : List (Str × Addr)) (fp : List Addr), PE (X.blk s H scope (compEnvC scope cl C X.env) fp) kx tk)
    (hv : ∀ (s : Shared) (H : Hp) (C : Addr) (cl : List (Str × Addr)) (fp : List Addr), PE (X.blk s H scope (compEnvC scope cl C X.env) fp) vx tv) (hs : ∀ x, foldedSetIterable iter X.env x = pure x)
    (I : Inv X pins σ H s) (h : tDc X.prog X.w wi g tk tv (own.map (·.2)) σ H Q)
    (fin : ∀ (D C : Addr) (s' : Shared) (m : Str → Option Value) (H' : Hp), Inv X pins σ H' s' → Q (.ref D) H' → s'.heap.Ns C m → FpOk X pins H' C → compPost (model X.prog X.w) X.A X.xe use Qf (.ref D) C (.ok .next) s') :
    wpAny (model X.prog X.w) X.A (comprehension (.DictComp kx vx [⟨tg, iter, [], 0⟩] scope pos) scope X.env pos' newDict false (eval iter X.env) use) Qf X.xe s := by
  have free : ∀ y ∈ scope.names, y.2 = .free → ∃ c, X.env.cells.lookup y.1 = some c := fun y hy e => (ok.free y hy e).elim (fun k => I.ok.has _ (.inl k)) fun k => I.ok.has _ (.inr k)
  refine wpAny_comprehension_free (use := use) rfl hs (closure_ok free) ok.kind (fun y hy e => by rw [ok.uniq y hy, e]) (thn (hi.run pins s σ H _ I h) fun xv s1 hx => thn hx fun itv s2 h2 => ?_)
  obtain ⟨it, fp, tn, J, H2, e, I2, T, st2, f2, q⟩ := h2
  subst e
  refine wpAny_newObj_type (newEnv_comp ?_)
  have hDn : H2 s2.heap.objs.size = none := I2.hok.fresh (Nat.le_refl _)
  have hm0 := Heap.DictOfH.new (knd := nestedKind X.prog X.w) s2.heap
  obtain ⟨o0, ho0, D0⟩ := of_dict (P := X.prog) (w := X.w) (H := upd H2 s2.heap.objs.size (.ext (objIs s2.heap.objs.size { cls := .type "dict", data := .dict #[] }))) hm0 .nil (Nat.zero_le _) (beq_eq_false_iff_ne.mpr (Ne.symm (Nat.ne_of_lt I2.big)))
  have e0 : (s2.heap.push { cls := .type "dict", data := .dict #[] }).get? s2.heap.objs.size = some { cls := .type "dict", data := .dict #[] } := Heap.get?_push_size _ rfl
  rw [e0] at ho0
  cases ho0
  obtain ⟨W, ⟨m0, w0⟩, turn⟩ := q _ _ hDn D0
  have I3 := I2.laid (a := s2.heap.objs.size) (o := .ext (objIs s2.heap.objs.size { cls := .type "dict", data := .dict #[] })) (h' := s2.heap.push { cls := .type "dict", data := .dict #[] }) (t' := s2.toks) (fun _ _ q => Heap.get?_push_of_some _ q) (Nat.le_refl _) (extOk e0)
  generalize hD : s2.heap.objs.size = D at hDn D0 w0 I3 e0 turn
  generalize hs3 : ({ s2 with heap := s2.heap.push { cls := .type "dict", data := .dict #[] } } : Shared) = s3
  rw [show ({ s2 with heap := s2.heap.push { cls := .type "dict", data := .dict #[] }, toks := s2.toks } : Shared) = s3 from hs3] at I3
  have h3 : s3.heap = s2.heap.push { cls := .type "dict", data := .dict #[] } := by rw [← hs3]
  have f3 : ∀ b ∈ fp, FpOk X pins (upd H2 D (.ext (objIs D { cls := .type "dict", data := .dict #[] }))) b ∧ b < s3.heap.objs.size := fun b hb => by
    obtain ⟨o, eo, _⟩ := T.obj _ _ st2 b hb
    have hlt := Heap.lt_size eo
    exact ⟨⟨by rw [upd_ne (by rw [← hD]; exact Nat.ne_of_lt hlt)]; exact (f2 b hb).1, (f2 b hb).2⟩, by rw [h3, Heap.size_push]; exact Nat.lt_succ_of_lt hlt⟩
  have st3 : tn 0 s3.heap := T.keep _ _ _ st2 fun b _ o eo => by rw [h3]; exact Heap.get?_push_of_some _ eo
  have I4 := block_start I3 ok hN f3
  generalize hcl : cellsFrom (s3.heap.objs.size + 1) scope.names (cloFrom X.env.cells scope.names []) = cl at I4
  generalize hH3 : upd H2 D (.ext (objIs D { cls := .type "dict", data := .dict #[] })) = H3 at D0 w0 I3 f3 I4
  have pg := hg s3 H3 s3.heap.objs.size cl fp
  have pk := hk s3 H3 s3.heap.objs.size cl fp
  have pv := hv s3 H3 s3.heap.objs.size cl fp
  have nfp : ∀ b ∈ fp, H3 b = none := fun b hb => (f3 b hb).1.1
  show codeAny _ _ (.compStart (.DictComp kx vx [⟨tg, iter, [], 0⟩] scope pos) 0 (.ref it) (.ref D) (compEnvC scope cl s3.heap.objs.size X.env)) (compPost (model X.prog X.w) X.A X.xe use Qf (.ref D) s3.heap.objs.size)
    ({ s3 with heap := pushCells (s3.heap.push { cls := .type "dict", data := .dict #[] }) scope.names } : Shared)
  generalize hce : compEnvC scope cl s3.heap.objs.size X.env = ce at I4 pg pk pv ⊢
  have cL : ce.locals = s3.heap.objs.size := by subst hce; rfl
  generalize hs4 : ({ s3 with heap := pushCells (s3.heap.push { cls := .type "dict", data := .dict #[] }) scope.names } : Shared) = s4 at I4 ⊢
  have st4 : tn 0 s4.heap := T.keep _ _ _ st3 fun b _ o eo => by rw [← hs4]; exact pushCells_keeps _ _ _ _ (Heap.get?_push_of_some _ eo)
  have fpB : ∀ {τ : L2.St} {H' : Hp} {s' : Shared}, Inv (X.blk s3 H3 scope ce fp) [] τ H' s' → (∀ b ∈ fp, H' b = none) → ∀ b ∈ fp, FpOk (X.blk s3 H3 scope ce fp) [] H' b := fun {τ H' s'} I' hn b hb =>
    ⟨hn b hb, (I'.ok.exf b hb).1, I'.ok.exfs b hb, .inl hb, fun x c ec => (I'.ok.exf b hb).2 x c ec, fun p hp => absurd (show p ∈ ([] : List (Addr × Obj)) ++ [] from hp) (by simp)⟩
  have loop : codeAny (model X.prog X.w) X.A (.compLoop (.DictComp kx vx [⟨tg, iter, [], 0⟩] scope pos) 0 (.ref it) (.ref D) ce) (compPost (model X.prog X.w) X.A X.xe use Qf (.ref D) s3.heap.objs.size) s4 := by
    refine dcLoop (fun n s' => ∃ i H', Inv (X.blk s3 H3 scope ce fp) [] (wipe σ (own.map (·.2))) H' s' ∧ tn i s'.heap ∧ (∀ b ∈ fp, H' b = none) ∧ W i n H') ?_ m0 ⟨0, H3, I4, st4, nfp, w0⟩
    rintro n s5 ⟨i, H5, I5, st5, n5, w5⟩
    rcases turn i n H5 w5 with ⟨stop, qq⟩ | ⟨go, Nx, hNx, step⟩
    · refine thnF (T.done (X.blk s3 H3 scope ce fp) rfl rfl rfl hc i [] s5 _ H5 (fun _ _ => False) I5 (fpB I5 n5) st5 stop) fun r s6 ⟨hr, I6⟩ => ?_
      subst hr
      have I7 : Inv X pins σ H5 s6 := I3.call' (ch := fp) I6.os I6.base I6.hok I6.bare fun b hb => let z := (f3 b hb).1.2; ⟨z.2.2.1, z.1, z.2.2.2.1, z.2.2.2.2⟩
      have nC : H5 s3.heap.objs.size = none := by
        have z : H5 ce.locals = none := I6.free
        rwa [cL] at z
      obtain ⟨mm, hn, _⟩ := I6.loc
      have hn : s6.heap.Ns ce.locals mm := hn
      rw [cL] at hn
      exact fin D s3.heap.objs.size s6 mm H5 I7 qq hn (I3.fpOk (Nat.le_refl _) nC)
    · refine thnF (T.item (X.blk s3 H3 scope ce fp) rfl rfl rfl hc i [] s5 _ H5 (fun _ _ => False) I5 (fpB I5 n5) st5 go) fun r s6 ⟨u, hr, h6⟩ => ?_
      subst hr
      refine thnF h6 fun _ s7 ⟨x, H7, I7, r7, y7, st7, n7⟩ => ?_
      have I7' := I7.pinned (fpB I7 n7) (T.obj _ _ st7)
      refine thnF (pg.run _ s7 _ H7 x u _ I7' r7 (step x H7 y7)) fun _ s8 ⟨σ8, H8, I8, hw8, q8⟩ => ?_
      refine thnF (pk.run _ s8 σ8 H8 _ I8 q8) fun kv s9 ⟨kz, H9, I9, rk, q9⟩ => ?_
      refine thnF (pv.run _ s9 σ8 H9 _ I9 q9) fun vv s10 ⟨vz, H10, I10, rv, b, kk, o1, us, ek, hnk, hdep, hDo, hDr, hlen, nx⟩ => ?_
      subst ek
      obtain rfl : kv = .ref b := rk
      obtain ⟨xs, hm, hp⟩ := dict_of I10 (.inl hDo) hDr
      have hp2 := kv_put hp hnk hdep rv
      refine wpAny_dictSet_heap (knd := nestedKind X.prog X.w) (room0 hu) ⟨nk_is I10 _ _ _ hnk rfl, hdep⟩ hm (fun h' hm' hs' => ?_) (by rw [← paired_len hp]; exact hDr.2.1)
      have hl2 : (kPut us kk vz).length ≤ sizeLine := by
        have := kPut_len us kk vz
        rw [sizeLine_eq]
        omega
      obtain ⟨o2, ho2, D2⟩ := of_dict (H := H10) hm' hp2 hl2 hDr.2.2.1
      have kp : Kp H10 (upd H10 D (.ext (objIs D o2))) := kp_put (.inr ⟨_, hDo⟩)
      have I11 : Inv (X.blk s3 H3 scope ce fp) ([] ++ pinsAt fp s7.heap) σ8 (upd H10 D (.ext (objIs D o2))) { s10 with heap := h', toks := s10.toks + (nestedKind X.prog X.w).draws kk } := d_write I10 (by rw [hDo]; trivial) hs' ⟨_, ho2⟩ (extOk ho2)
      obtain ⟨m', hm2, w'⟩ := hNx _ (nx o2 (D2.keep kp))
      have pin' : ∀ b ∈ fp, ∀ o, s7.heap.get? b = some o → h'.get? b = some o ∧ (upd H10 D (.ext (objIs D o2))) b = none := fun b hb o eo =>
        let z := I11.pin (b, o) (List.mem_append_right _ (List.mem_append_right _ (mem_pinsAt hb eo)))
        ⟨z.1, z.2.1⟩
      have hl : (wipe σ (own.map (·.2))).length = σ8.length := by rw [← hw8, wipe_length]
      refine ⟨m', hm2, i + 1, _, (I11.unpinned (pins := [])).weak hl (fun j v ej => ?_), T.keep _ _ _ st7 fun b hb o eo => (pin' b hb o eo).1, fun b hb => ?_, w'⟩
      · rw [← hw8] at ej
        exact (wipe_some ej).1
      · obtain ⟨o, eo, _⟩ := T.obj _ _ st7 b hb
        exact (pin' b hb o eo).2
  exact codeAny_compStart_dict loop (T.self X.A 0 _ _ _ st4 loop)
variable {kx vx tg iter : Expr} {scope : Scope} {own : List (Str × Nat)} {pos : Pos} {wi : TI} {g : TG} {tk tv : TE}
theorem pe_dc (hu : X.A.units + 64 < cLine) (hc : X.calm = true) (hN : X.N.Nodup) (hi : PI X tg iter wi) (ok : BlkOk X.N X.env.scope scope own)
    (hg : ∀ (s : Shared) (H : Hp) (C : Addr) (cl : List (Str × Addr)) (fp : List Addr), PG (X.blk s H scope (compEnvC scope cl C X.env) fp) tg g)
    (hk : ∀ (s : Shared) (H : Hp) (C : Addr) (cl : List (Str × Addr)) (fp : List Addr), PE (X.blk s H scope (compEnvC scope cl C X.env) fp) kx tk)
    (hv : ∀ (s : Shared) (H : Hp) (C : Addr) (cl : List (Str × Addr)) (fp : List Addr), PE (X.blk s H scope (compEnvC scope cl C X.env) fp) vx tv) (hs : ∀ x, foldedSetIterable iter X.env x = pure x := by intro _; rfl) :
    PE X (.DictComp kx vx [⟨tg, iter, [], 0⟩] scope pos) (tDc X.prog X.w wi g tk tv (own.map (·.2))) := by
  refine ⟨fun pins s σ H Q I h => ?_⟩
  rw [arm_eval_DictComp]
  refine dc_core hu hc hN hi ok hg hk hv hs I h fun D C s' m H' I' q hn f => ⟨m, hn, fun h'' sb => ?_⟩
  obtain ⟨g0, g1, g2, g3, g4, g5⟩ := f
  exact ⟨.ref D, H', I'.turned (t' := s'.toks) (fun b o hb eb => (sb.2 b hb).trans eb) g0 g1 g3 g4 g5, rfl, q⟩
/-- name = {..} on one line -/
theorem ps_setDc {i : Nat} {y : Str} {py spos : Pos} (hu : X.A.units + 64 < cLine) (hc : X.calm = true) (hN : X.N.Nodup) (hy : X.N[i]? = some y) (hyl : X.env.scope.names.lookup y = some .local)
    (hsw : swapsWith (.DictComp kx vx [⟨tg, iter, [], 0⟩] scope pos) (some (.Name y py)) spos.line X.env = pure true) (hi : PI X tg iter wi) (ok : BlkOk X.N X.env.scope scope own)
    (hg : ∀ (s : Shared) (H : Hp) (C : Addr) (cl : List (Str × Addr)) (fp : List Addr), PG (X.blk s H scope (compEnvC scope cl C X.env) fp) tg g)
    (hk : ∀ (s : Shared) (H : Hp) (C : Addr) (cl : List (Str × Addr)) (fp : List Addr), PE (X.blk s H scope (compEnvC scope cl C X.env) fp) kx tk)
    (hv : ∀ (s : Shared) (H : Hp) (C : Addr) (cl : List (Str × Addr)) (fp : List Addr), PE (X.blk s H scope (compEnvC scope cl C X.env) fp) vx tv) (hs : ∀ x, foldedSetIterable iter X.env x = pure x := by intro _; rfl) :
    PS X (.Assign [.Name y py] (.DictComp kx vx [⟨tg, iter, [], 0⟩] scope pos) spos) (fun D σ H => tDc X.prog X.w wi g tk tv (own.map (·.2)) σ H fun x H1 => gName i x σ H1 D.nx) := by
  refine ⟨fun pins s σ H D I h => ?_⟩
  rw [exec_Assign_Name_used _ _ _ _ hsw]
  refine wpAny_bind (wpAny_standAt (wpAny_bind ?_))
  show wpAny _ X.A (do let _ ← comprehension (.DictComp kx vx [⟨tg, iter, [], 0⟩] scope pos) scope X.env (firstIterPos [⟨tg, iter, [], 0⟩] pos) newDict false (eval iter X.env) (some (assign (.Name y py) X.env))) _ _ s
  refine wpAny_bind (thn (dc_core (Qf := fun _ s' => SP X pins D .next s') hu hc hN hi ok hg hk hv hs I h fun L C s' m H' I' q hn f => ?_) fun _ s' hq => wpAny_pure (wpAny_pure hq))
  show wpAny _ _ (assign (.Name y py) X.env (.ref L)) _ _ _
  refine wpAny_assign_Name (store_ok2 (v := V.ref L) I' hN hy (.inl hyl) rfl (fun s2 I2 ⟨a, sb, ha⟩ => ?_) (.inr hyl))
  obtain ⟨g0, g1, g2, g3, g4, g5⟩ := f
  have hne : C ≠ a := ha.elim (fun z => by rw [z]; exact g1) fun z e => g4 y a z e.symm
  exact ⟨m, hn.sameBut sb hne, fun h3 sb3 => ⟨_, H', I2.turned (t' := s2.toks) (fun b o hb e => (sb3.2 b hb).trans e) g0 g1 g3 g4 g5, q⟩⟩
theorem swd_true {gs : List Comprehension} {py : Pos} {y : Str} {l : Nat} {env : Env} (hk : env.scope.kind = .function) (hy : env.scope.names.lookup y = some .local) (hl : (py.line == pos.line) = true)
    (ha : (scope.names.any fun (n, k) => n == y && (k == .local || k == .cell)) = false) : swapsWith (.DictComp kx vx gs scope pos) (some (.Name y py)) l env = pure true := by
  have e1 : env.kindOf y = some .local := hy
  have e2 : env.blockKind = .function := by unfold Env.blockKind; rw [hk]; rfl
  unfold swapsWith
  simp only [e2, e1, ha, Expr.pos, hl]
  rfl
end
end DL
end DLv
section DLw
set_option Elab.async false
set_option linter.all false
set_option maxRecDepth 100000
set_option maxHeartbeats 2000000
/-! DLw: dict comprehensions by data -/
namespace DL
open PySem PySem.Spec PyProof.Rows L2
def dcW (G : Gt) (Ek Ev : Et) (vs : List Nat) : List PyData → Sv → List (NestedKey × PyData) → (List (NestedKey × PyData) → Sv → Prop) → Prop
  | [], ρ, acc, Q => Q acc ρ
  | d :: l, ρ, acc, Q => G d ρ fun ρ1 => Ek ρ1 fun x ρ2 => Ev ρ2 fun y ρ3 => ∃ kd z, ddOf ρ3 x = some kd ∧ KeyOk kd ∧ dats [y] = some [z] ∧ acc.length < 100000 ∧ dcW G Ek Ev vs l (wipeE ρ3 vs) (kPut acc (nkOf kd) z) Q
def eDc (W : Wt) (G : Gt) (Ek Ev : Et) (vs : List Nat) : Et := fun ρ Q => W ρ fun l ρ1 => freeE ρ1 vs ∧ dcW G Ek Ev vs l (wipeE ρ1 vs) [] fun out ρ2 => Q (.new (.dct out)) (unwipe ρ1 ρ2 vs)
section
variable {X : Cx} {kx vx tg iter : Expr} {scope : Scope} {own : List (Str × Nat)} {pos : Pos} {W : Wt} {G : Gt} {Ek Ev : Et} {gv : List Nat}
theorem dc_d (hsub : ∀ i ∈ gv, i ∈ own.map (·.2)) {σ : L2.St} {H : Hp} {Q : VK} (h : rdE X.prog X.w (eDc W G Ek Ev (own.map (·.2))) σ H Q) :
    tDc X.prog X.w (rdI X.prog X.w W) (rdG X.prog X.w gv G) (rdE X.prog X.w Ek) (rdE X.prog X.w Ev) (own.map (·.2)) σ H Q := by
  generalize own.map (·.2) = vs at h hsub
  obtain ⟨ρ, R, rep, hW, q⟩ := h
  refine ⟨ρ, _, rep, hW, fun l ρ1 H1 J ⟨hf, hlc⟩ le1 rep1 sz it D o hD D0 => ?_⟩
  let Ins : Nat → Hp → Prop := fun i H' => ∃ ρ' acc o1 us, Rep X.prog X.w H' (wipe σ vs) ρ' ∧ Le (ownA σ ρ1) H1 (ownA (wipe σ vs) ρ') H' ∧ H' D = some (.ext (objIs D o1)) ∧ DictRep X.prog X.w H' D o1 us ∧ ZipD H' acc us ∧ ¬ ownA (wipe σ vs) ρ' D ∧
    dcW G Ek Ev vs (l.drop i) ρ' acc fun out ρ2 => R (.new (.dct out)) (unwipe ρ1 ρ2 vs)
  have nD : ¬ ownA σ ρ1 D := fun m => rep1.tracked m hD
  have start : Ins 0 (upd H1 D (.ext (objIs D o))) := by
    refine ⟨wipeE ρ1 vs, [], o, [], (rep1.wiped vs).laid hD, ((Le.refl _ _).less fun b m => ownA_wiped m).fresh hD, upd_same, D0, ⟨rfl, .nil⟩, fun m => nD (ownA_wiped m), ?_⟩
    rw [List.drop_zero]
    exact hlc
  refine ⟨fun i m H' => m = l.length - i ∧ i ≤ l.length ∧ Ins i H', ⟨l.length, by omega, by omega, start⟩, ?_⟩
  rintro i m H' ⟨rfl, hi, ρ', acc, o1, us, rep', le', hDx, hDr, hz, nown, hrest⟩
  have kp : Kp H1 H' := rep1.kp le'
  by_cases hlt : i < l.length
  · have hd : l[i]? = some l[i] := List.getElem?_eq_getElem hlt
    rw [List.drop_eq_getElem_cons hlt] at hrest
    obtain ⟨g1, g2⟩ := it.go i _ H' hd kp
    refine .inr ⟨g1, Ins (i + 1), fun H2 h2 => ⟨l.length - (i + 1), by omega, rfl, hlt, h2⟩, fun x H2 y => ?_⟩
    obtain ⟨s1, s2, hv⟩ := g2 x H2 y
    have ley : Le (ownA (wipe σ vs) ρ') H' (ownA (wipe σ vs) ρ') H2 := ⟨fun b o e _ => s1 b o e, s2, fun b m => .inl m⟩
    refine ⟨ρ', l[i], _, rep'.same s1, hv, hrest, fun ρ3 σ3 H3 hS le3 rep3 off hl3 => ?_⟩
    have w3 : wipe σ3 vs = wipe σ vs := by
      have := wipe_eq (vs := vs) (fun j hj => off j fun z => hj (hsub j z)) hl3
      rw [this, wipe_wipe]
    refine ⟨w3, ρ3, _, rep3, hS, fun kz H4 ⟨xk, ρ4, hK, le4, rep4, hxk⟩ => ⟨ρ4, _, rep4, hK, fun vz H5 ⟨xv, ρ5, ⟨kd, zd, hkd, hko, hzd, hlen, hnext⟩, le5, rep5, hxv⟩ => ?_⟩⟩
    have Lb := ((ley.trans le3).trans le4).trans le5
    have L5 := le'.trans Lb
    have e5 : H5 D = some (.ext (objIs D o1)) := Lb.keep D _ hDx nown
    have n5 : ¬ ownA σ3 ρ5 D := fun m => by
      rcases Lb.new D m with z | z
      · exact nown z
      · rw [hDx] at z; cases z
    have k5 : Kp H' H5 := rep'.kp Lb
    obtain ⟨b, rfl, hb⟩ := key_at rep5 (hxk.keep rep4 le5) hkd hko
    have hzv : Dv H5 vz zd := by
      have q := (dats_all hzd).dv (XvAll.one' hxv)
      cases q with | cons q _ => exact q
    have hll : us.length < 100000 := by
      have := congrArg List.length hz.1
      rw [List.length_map, List.length_map] at this
      omega
    refine ⟨b, nkOf kd, o1, us, rfl, hb, hko.dep, e5, hDr.keep k5, hll, fun o2 D2 => ?_⟩
    have ku : Kp H5 (upd H5 D (.ext (objIs D o2))) := kp_put (.inr ⟨_, e5⟩)
    have hz2 := zip_put (k := nkOf kd) (⟨hz.1, hz.2.keep k5⟩ : ZipD H5 acc us) hzv
    refine ⟨wipeE ρ5 vs, kPut acc (nkOf kd) zd, o2, _, ?_, ?_, upd_same, D2, ⟨hz2.1, hz2.2.keep ku⟩, fun m => ?_, hnext⟩
    · have r5 := (rep5.of ku fun b m => upd_ne fun z => n5 (z ▸ m)).wiped vs
      rw [w3] at r5
      exact r5
    · refine (L5.less fun b m => ?_).fresh hD
      rw [← w3] at m
      exact ownA_wiped m
    · rw [← w3] at m
      exact n5 (ownA_wiped m)
  · have e : i = l.length := by omega
    subst e
    rw [List.drop_length] at hrest
    refine .inl ⟨it.stop H' kp, q _ _ ⟨_, _, hrest, (le1.trans le').less fun b m => ownA_unwiped hf m, rep1.unwiped kp rep' hf, D, rfl, rfl, ⟨o1, us, hDx, hDr, hz⟩, le1.trk D hD, fun m => nown (ownA_unwiped hf m)⟩⟩
theorem de_dc (hu : X.A.units + 64 < cLine) (hc : X.calm = true) (hN : X.N.Nodup) (hi : DI X tg iter W) (ok : BlkOk X.N X.env.scope scope own)
    (hg : ∀ (s : Shared) (H : Hp) (C : Addr) (cl : List (Str × Addr)) (fp : List Addr), DG (X.blk s H scope (compEnvC scope cl C X.env) fp) tg gv G)
    (hk : ∀ (s : Shared) (H : Hp) (C : Addr) (cl : List (Str × Addr)) (fp : List Addr), DE (X.blk s H scope (compEnvC scope cl C X.env) fp) kx Ek)
    (hv : ∀ (s : Shared) (H : Hp) (C : Addr) (cl : List (Str × Addr)) (fp : List Addr), DE (X.blk s H scope (compEnvC scope cl C X.env) fp) vx Ev) (hsub : ∀ i ∈ gv, i ∈ own.map (·.2) := by decide) (hs : ∀ x, foldedSetIterable iter X.env x = pure x := by intro _; rfl) :
    DE X (.DictComp kx vx [⟨tg, iter, [], 0⟩] scope pos) (eDc W G Ek Ev (own.map (·.2))) := PE.imp (pe_dc hu hc hN hi ok hg hk hv hs) fun σ H Q h => dc_d hsub h
/-- one name as the target; the items' own keys, all new -/
theorem dc_N {α : Type} {enc : α → PyData} {j : Nat} {ρ : Sv} {Q : List (NestedKey × PyData) → Sv → Prop} (kf : α → NestedKey) (vf : α → PyData) (hj : j < ρ.length) (hw : ρ.set j none = ρ)
    (hE : ∀ (x : α) (K : List (NestedKey × PyData) → Prop) (acc : List (NestedKey × PyData)), True → True) : ∀ (xs : List α) (acc : List (NestedKey × PyData)), acc.length + xs.length < 100000 →
    (∀ x ∈ xs, ∀ K : Dx → Dx → Sv → Prop, (∀ X Y, ddOf (ρ.set j (some (.dat (.d (enc x))))) X = some (enc x) → dats [Y] = some [vf x] → K X Y (ρ.set j (some (.dat (.d (enc x)))))) → Ek (ρ.set j (some (.dat (.d (enc x))))) fun X ρ2 => Ev ρ2 fun Y ρ3 => K X Y ρ3) →
    (∀ x ∈ xs, KeyOk (enc x)) → (xs.map fun x => nkOf (enc x)).Nodup → (∀ x ∈ xs, kAt acc (nkOf (enc x)) = none) → Q (acc ++ xs.map fun x => (nkOf (enc x), vf x)) ρ → dcW (gN j) Ek Ev [j] (xs.map enc) ρ acc Q
  | [], acc, _, _, _, _, _, q => by
    show Q acc ρ
    simpa using q
  | x :: xs, acc, hl, hev, hko, hnd, hno, q => by
    rw [List.map_cons] at hnd
    have nd := List.nodup_cons.mp hnd
    have w : wipeE (ρ.set j (some (.dat (.d (enc x))))) [j] = ρ := by
      show ((ρ.set j _).set j none) = ρ
      rw [List.set_set, hw]
    have hput : kPut acc (nkOf (enc x)) (vf x) = acc ++ [(nkOf (enc x), vf x)] := by
      unfold kPut
      rw [hno x List.mem_cons_self]; rfl
    refine ⟨hj, hev x List.mem_cons_self _ fun X Y e1 e2 => ⟨enc x, vf x, e1, hko x List.mem_cons_self, e2, by rw [List.length_cons] at hl; omega, ?_⟩⟩
    rw [w, hput]
    refine dc_N kf vf hj hw hE xs _ (by rw [List.length_append]; simp only [List.length_cons, List.length_nil] at hl ⊢; omega) (fun y hy => hev y (List.mem_cons_of_mem _ hy)) (fun y hy => hko y (List.mem_cons_of_mem _ hy)) nd.2 (fun y hy => ?_) ?_
    · have h1 := hno y (List.mem_cons_of_mem _ hy)
      have hne : nkOf (enc x) ≠ nkOf (enc y) := fun e => nd.1 (by rw [e]; exact List.mem_map.mpr ⟨y, hy, rfl⟩)
      unfold kAt at h1 ⊢
      rw [List.find?_append]
      cases e : acc.find? fun z => decide (z.1 = nkOf (enc y)) with
      | some z => rw [e] at h1; cases h1
      | none =>
        rw [Option.none_or, List.find?_cons_of_neg (by simpa using hne)]
        rfl
    · rw [List.append_assoc]
      exact q
end
end DL
end DLw
section DLx
set_option Elab.async false
set_option linter.all false
set_option maxRecDepth 100000
set_option maxHeartbeats 2000000
/-! DLx: a dict of own dicts -/
namespace DL
open PySem PySem.Spec PyProof.Rows L2
/-- all that is tracked stays -/
structure KeepT (H H' : Hp) : Prop where
  keep : ∀ b o, H b = some o → H' b = some o
  trk : ∀ b, H' b = none → H b = none
theorem KeepT.refl (H : Hp) : KeepT H H := ⟨fun _ _ e => e, fun _ e => e⟩
theorem KeepT.trans {H H1 H2 : Hp} (a : KeepT H H1) (b : KeepT H1 H2) : KeepT H H2 := ⟨fun c o e => b.keep c o (a.keep c o e), fun c e => a.trk c (b.trk c e)⟩
theorem KeepT.kp {H H' : Hp} (k : KeepT H H') : Kp H H' := ⟨fun b xs e => k.keep b _ e, fun b o u e => k.keep b _ e⟩
theorem KeepT.laid {H : Hp} {p : Addr} {o : HO} (hp : H p = none) : KeepT H (upd H p o) := ⟨(laid_all hp).1, (laid_all hp).2⟩
/-- the tracked things but those of A stay -/
structure KeepX (A : Addr → Prop) (H H' : Hp) : Prop where
  keep : ∀ b o, H b = some o → ¬ A b → H' b = some o
  trk : ∀ b, H' b = none → H b = none
theorem KeepX.trans {A : Addr → Prop} {H H1 H2 : Hp} (a : KeepX A H H1) (b : KeepX A H1 H2) : KeepX A H H2 := ⟨fun c o e n => b.keep c o (a.keep c o e n) n, fun c e => a.trk c (b.trk c e)⟩
theorem KeepT.x {A : Addr → Prop} {H H' : Hp} (k : KeepT H H') : KeepX A H H' := ⟨fun b o e _ => k.keep b o e, k.trk⟩
/-- no own things -/
def NoOwn (ρ : Sv) : Prop := ∀ (i : Nat) (c : Cell), ρ[i]? = some (some c) → c.own = false
theorem NoOwn.emp {ρ : Sv} (h : NoOwn ρ) {σ : L2.St} (b : Addr) : ¬ ownA σ ρ b := fun ⟨i, c, h1, h2, _⟩ => by rw [h i c h1] at h2; cases h2
theorem NoOwn.keep {ρ : Sv} (h : NoOwn ρ) {σ : L2.St} {M : Addr → Prop} {H H' : Hp} (L : Le (ownA σ ρ) H M H') : KeepT H H' := ⟨fun b o e => L.keep b o e (h.emp b), L.trk⟩
theorem NoOwn.set {ρ : Sv} (h : NoOwn ρ) (i : Nat) (d : Dt) : NoOwn (ρ.set i (some (.dat d))) := fun j c e => by
  rcases set_get e with ⟨_, e⟩ | ⟨_, e⟩
  · cases e; rfl
  · exact h j c e
theorem NoOwn.del {ρ : Sv} (h : NoOwn ρ) (i : Nat) : NoOwn (ρ.set i none) := fun j c e => by
  rcases set_get e with ⟨_, e⟩ | ⟨_, e⟩
  · cases e
  · exact h j c e
theorem NoOwn.wiped {ρ : Sv} (h : NoOwn ρ) (vs : List Nat) : NoOwn (wipeE ρ vs) := fun j c e => h j c (wipeE_some e).1
/-- own dict of Trues -/
def InN (P : Program) (w : World) (H : Hp) (b : Addr) (ks : List NestedKey) : Prop := ∃ o us, H b = some (.ext (objIs b o)) ∧ DictRep P w H b o us ∧ us = ks.map fun k => (k, V.bl true)
/-- at a an own dict whose values are the own dicts at A -/
def NG (P : Program) (w : World) (H : Hp) (a : Addr) (A : List Addr) (kvs : List (NestedKey × List NestedKey)) : Prop :=
  a ∉ A ∧ A.Nodup ∧ ∃ o vs, H a = some (.ext (objIs a o)) ∧ DictRep P w H a o vs ∧ vs.map (·.2) = A.map V.ref ∧ kvs.map (·.1) = vs.map (·.1) ∧ Paired (InN P w H) A (kvs.map (·.2))
section
variable {P : Program} {w : World} {H H' H1 H2 : Hp} {σ : L2.St} {ρ : Sv} {a : Addr} {A : List Addr} {kvs : List (NestedKey × List NestedKey)}
theorem InN.keep (k : Kp H H') {b : Addr} {ks : List NestedKey} (e : H' b = H b) (h : InN P w H b ks) : InN P w H' b ks :=
  let ⟨o, us, h1, h2, h3⟩ := h; ⟨o, us, e.trans h1, h2.keep k, h3⟩
theorem InN.some {b : Addr} {ks : List NestedKey} (h : InN P w H b ks) : H b ≠ none := by obtain ⟨o, us, h1, _⟩ := h; rw [h1]; simp
theorem pairedMem {α β : Type} {F : α → β → Prop} {l : List α} {m : List β} (h : Paired F l m) : ∀ x ∈ l, ∃ y ∈ m, F x y := by
  induction h with
  | nil => simp
  | @cons a b l1 l2 r t ih =>
    intro x hx
    rcases List.mem_cons.mp hx with rfl | hx
    · exact ⟨b, List.mem_cons_self, r⟩
    · obtain ⟨y, hy, q⟩ := ih x hx
      exact ⟨y, List.mem_cons_of_mem _ hy, q⟩
theorem paired_keep (k : Kp H H') {l : List Addr} {m : List (List NestedKey)} (h : Paired (InN P w H) l m) (e : ∀ b ∈ l, H' b = H b) : Paired (InN P w H') l m := by
  induction h with
  | nil => exact .nil
  | @cons a b l1 l2 r t ih => exact .cons (r.keep k (e a List.mem_cons_self)) (ih fun b hb => e b (List.mem_cons_of_mem _ hb))
theorem NG.keepT (h : NG P w H a A kvs) (k : KeepT H H') : NG P w H' a A kvs := by
  obtain ⟨h1, h2, o, vs, h3, h4, h5, h6, h7⟩ := h
  refine ⟨h1, h2, o, vs, k.keep _ _ h3, h4.keep k.kp, h5, h6, paired_keep k.kp h7 fun b hb => ?_⟩
  obtain ⟨ks, _, hi⟩ := pairedMem h7 b hb
  obtain ⟨o1, us, e1, _⟩ := hi
  rw [e1]; exact k.keep _ _ e1
theorem NG.trk (h : NG P w H a A kvs) : ∀ b, b = a ∨ b ∈ A → H b ≠ none := by
  obtain ⟨h1, h2, o, vs, h3, h4, h5, h6, h7⟩ := h
  rintro b (rfl | hb)
  · rw [h3]; simp
  · obtain ⟨ks, _, hi⟩ := pairedMem h7 b hb
    exact hi.some
end
section
variable {X : Cx} {kx tg iter : Expr} {scope : Scope} {own : List (Str × Nat)} {pos p2 : Pos} {W : Wt} {gv : List Nat}
/-- found = {x: {} for x in l} -/
def tNest (P : Program) (w : World) (i0 j : Nat) (W : Wt) : TS := fun D σ H => ∃ (ρ : Sv) (R : List PyData → Prop), Rep P w H σ ρ ∧ NoOwn ρ ∧ i0 < ρ.length ∧ j < ρ.length ∧ ρ[j]? = some none ∧ W ρ (fun l ρ1 => ρ1 = ρ ∧ (∀ d ∈ l, KeyOk d) ∧ (l.map nkOf).Nodup ∧ l.length < 1000 ∧ R l) ∧
  ∀ (l : List PyData) (a : Addr) (A : List Addr) (H2 : Hp), R l → NG P w H2 a A (l.map fun d => (nkOf d, [])) → KeepT H H2 → (∀ b, b = a ∨ b ∈ A → H b = none) → Rep P w H2 (σ.set i0 (some (.ref a))) (ρ.set i0 none) → D.nx (σ.set i0 (some (.ref a))) H2
theorem kAt_none {α : Type} {l : List (NestedKey × α)} {k : NestedKey} (h : k ∉ l.map (·.1)) : kAt l k = none := by
  induction l with
  | nil => rfl
  | cons x l ih =>
    rw [List.map_cons, List.mem_cons, not_or] at h
    rw [kAt_cons, if_neg (Ne.symm h.1)]
    exact ih h.2
theorem paired_snoc {α β : Type} {F : α → β → Prop} {l : List α} {m : List β} {x : α} {y : β} (h : Paired F l m) (r : F x y) : Paired F (l ++ [x]) (m ++ [y]) := h.snoc r
theorem nest_d {i0 j : Nat} {σ : L2.St} {H : Hp} {D : Ends} (h : tNest X.prog X.w i0 j W D σ H) :
    tDc X.prog X.w (rdI X.prog X.w W) (rdG X.prog X.w [j] (gN j)) (rdE X.prog X.w (eVar j)) (tNewV X.prog X.w) [j] σ H fun x H1 => gName i0 x σ H1 D.nx := by
  obtain ⟨ρ, R, rep, no, hi0, hj, hjn, hW, q⟩ := h
  refine ⟨ρ, _, rep, hW, fun l ρ1 H1 J ⟨e1, hko, hnd, hlen, hR⟩ le1 rep1 sz it D0 o hD hD0 => ?_⟩
  have e1 := e1.symm
  subst e1
  have k1 := no.keep le1
  let Ins : Nat → Hp → Prop := fun i H' => ∃ A, NG X.prog X.w H' D0 A ((l.take i).map fun d => (nkOf d, [])) ∧ KeepT H1 H' ∧ (∀ b ∈ A, H1 b = none)
  have start : Ins 0 (upd H1 D0 (.ext (objIs D0 o))) := ⟨[], ⟨by simp, by simp, o, [], upd_same, hD0, rfl, rfl, .nil⟩, .laid hD, by simp⟩
  refine ⟨fun i m H' => m = l.length - i ∧ i ≤ l.length ∧ Ins i H', ⟨l.length, by omega, by omega, start⟩, ?_⟩
  rintro i m H' ⟨rfl, hi, A, hng, kt, hfr⟩
  by_cases hlt : i < l.length
  · have hd : l[i]? = some l[i] := List.getElem?_eq_getElem hlt
    obtain ⟨g1, g2⟩ := it.go i _ H' hd kt.kp
    refine .inr ⟨g1, Ins (i + 1), fun H2 h2 => ⟨l.length - (i + 1), by omega, rfl, hlt, h2⟩, fun x H2 y => ?_⟩
    obtain ⟨s1, s2, hv⟩ := g2 x H2 y
    have ky : KeepT H' H2 := ⟨s1, s2⟩
    have repw : Rep X.prog X.w H2 (wipe σ [j]) (wipeE ρ [j]) := (rep1.same fun b o e => (kt.trans ky).keep b o e).wiped [j]
    have now := no.wiped [j]
    refine ⟨wipeE ρ [j], l[i], fun ρ3 => ρ3 = (wipeE ρ [j]).set j (some (.dat (.d l[i]))), repw, hv, ⟨by rw [wipeE_len]; exact hj, rfl⟩, fun ρ3 σ3 H3 hS le3 rep3 off hl3 => ?_⟩
    have w3 : wipe σ3 [j] = wipe σ [j] := by
      have := wipe_eq (vs := [j]) (fun m hm => off m hm) hl3
      rw [this, wipe_wipe]
    have k3 := now.keep le3
    subst hS
    have hj3 : ((wipeE ρ [j]).set j (some (.dat (.d l[i]))))[j]? = some (some (.dat (.d l[i]))) := List.getElem?_set_self (by rw [wipeE_len]; exact hj)
    refine ⟨w3, _, fun xx ρ4 => xx = .dat (.d l[i]) ∧ ρ4 = (wipeE ρ [j]).set j (some (.dat (.d l[i]))), rep3, by unfold eVar; rw [hj3]; exact ⟨rfl, rfl⟩, fun kz H4 ⟨xx, ρ4, ⟨e1, e2⟩, le4, rep4, hx4⟩ p o2 hp hD2 => ?_⟩
    subst e1 e2
    have k4 := (now.set j (.d l[i])).keep le4
    have k24 := (ky.trans k3).trans k4
    have kl : KeepT H4 (upd H4 p (.ext (objIs p o2))) := .laid hp
    have kall := k24.trans kl
    have hng5 := hng.keepT kall
    obtain ⟨n1, n2, o1, us, e1, e2, e3, e4, e5⟩ := hng5
    have hk := hko l[i] (List.getElem_mem hlt)
    obtain ⟨b, hb⟩ : ∃ b, kz = .ref b := by
      obtain ⟨lx, hlx⟩ := hk.tup
      have hx4 : Dv H4 kz l[i] := hx4
      rw [hlx] at hx4
      cases hx4
      exact ⟨_, rfl⟩
    subst hb
    have hnk : NkV H4 (.ref b) (nkOf l[i]) := hk.nk.v hx4
    have hul : us.length = i := by
      have := congrArg List.length e4
      rw [List.length_map, List.length_map, List.length_map, List.length_take] at this
      omega
    have hnew : kAt us (nkOf l[i]) = none := kAt_none fun m => by
      rw [← e4, List.map_map] at m
      obtain ⟨d, hd1, hd2⟩ := List.mem_map.mp m
      have hd2 : nkOf d = nkOf l[i] := hd2
      have hsp : l.map nkOf = (l.take i).map nkOf ++ (nkOf l[i] :: (l.drop (i + 1)).map nkOf) := by
        rw [← List.map_cons, ← List.drop_eq_getElem_cons hlt, ← List.map_append, List.take_append_drop]
      rw [hsp] at hnd
      exact (List.nodup_append.mp hnd).2.2 _ (List.mem_map.mpr ⟨d, hd1, rfl⟩) _ List.mem_cons_self hd2
    have hput : kPut us (nkOf l[i]) (V.ref p) = us ++ [(nkOf l[i], V.ref p)] := by
      unfold kPut
      rw [hnew]; rfl
    have hpD : p ≠ D0 := fun z => by rw [z] at hp; exact (hng.keepT k24).trk D0 (.inl rfl) hp
    have hpA : p ∉ A := fun z => (hng.keepT k24).trk p (.inr z) hp
    refine ⟨b, nkOf l[i], o1, us, rfl, hnk.keep kl.kp, hk.dep, e1, e2, by omega, fun o3 D3 => ?_⟩
    rw [hput] at D3
    have htk : l.take (i + 1) = l.take i ++ [l[i]] := by rw [List.take_succ, hd]; rfl
    have ku : Kp (upd H4 p (.ext (objIs p o2))) (upd (upd H4 p (.ext (objIs p o2))) D0 (.ext (objIs D0 o3))) := kp_put (.inr ⟨_, e1⟩)
    refine ⟨A ++ [p], ⟨?_, ?_, o3, _, upd_same, D3, ?_, ?_, ?_⟩, ?_, fun c hc => ?_⟩
    · rw [List.mem_append, List.mem_singleton, not_or]
      exact ⟨n1, Ne.symm hpD⟩
    · exact List.nodup_append.mpr ⟨n2, by simp, fun u hu v hv e => hpA (by rw [List.mem_singleton.mp hv] at e; rw [← e]; exact hu)⟩
    · rw [List.map_append, List.map_append, e3]; rfl
    · rw [htk, List.map_append, List.map_append, List.map_append, ← e4]; rfl
    · rw [htk, List.map_append, List.map_append]
      refine paired_snoc (paired_keep ku e5 fun c hc => upd_ne fun z => n1 (by rw [← z]; exact hc)) ⟨o2, [], ?_, hD2.keep ku, rfl⟩
      rw [upd_ne hpD]; exact upd_same
    · refine ⟨fun c u ec => ?_, fun c ec => ?_⟩
      · have hcD : c ≠ D0 := fun z => by rw [z, hD] at ec; cases ec
        rw [upd_ne hcD]
        exact (kt.trans kall).keep c u ec
      · by_cases hcD : c = D0
        · rw [hcD]; exact hD
        · rw [upd_ne hcD] at ec
          exact (kt.trans kall).trk c ec
    · rcases List.mem_append.mp hc with h | h
      · exact hfr c h
      · rw [List.mem_singleton.mp h]
        exact (kt.trans k24).trk p hp
  · have e : i = l.length := by omega
    subst e
    rw [List.take_length] at hng
    refine .inl ⟨it.stop H' kt.kp, ?_⟩
    refine q l D0 A H' hR hng (k1.trans kt) (fun c hc => ?_) ?_
    · rcases hc with rfl | hc
      · exact k1.trk _ hD
      · exact k1.trk _ (hfr c hc)
    · have r2 := rep.same fun b o e => (k1.trans kt).keep b o e
      refine ⟨by rw [List.length_set, List.length_set]; exact r2.len, fun m d e => ?_, fun m c e ho => ?_, fun m n c c' ad g1 o1 g2 o2 s1 s2 => ?_⟩
      · rcases set_get e with ⟨_, e⟩ | ⟨hm, e⟩
        · cases e
        · obtain ⟨v, v1, v2⟩ := r2.dat m d e
          exact ⟨v, by rw [List.getElem?_set_ne (Ne.symm hm)]; exact v1, v2⟩
      · have := (no.del i0) m c e
        rw [this] at ho; cases ho
      · have := (no.del i0) m c g1
        rw [this] at o1; cases o1
end
end DL
end DLx
section DLy
set_option Elab.async false
set_option linter.all false
set_option maxRecDepth 100000
set_option maxHeartbeats 2000000
/-! DLy: a dict of own dicts: loops, found[k][k2] = True, return -/
namespace DL
open PySem PySem.Spec PyProof.Rows L2
abbrev Nst := List (NestedKey × List NestedKey)
abbrev SttN := Sv → Nst → (Sv → Nst → Prop) → Prop
/-- the state while found is filled -/
structure NS (P : Program) (w : World) (i0 : Nat) (a : Addr) (A : List Addr) (σ : L2.St) (H : Hp) (ρ : Sv) (γ : Nst) : Prop where
  rep : Rep P w H σ ρ
  no : NoOwn ρ
  non : ρ[i0]? = some none
  slot : σ[i0]? = some (some (.ref a))
  ng : NG P w H a A γ
def rdN (P : Program) (w : World) (i0 : Nat) (S : SttN) : TS := fun D σ H => ∃ (a : Addr) (A : List Addr) (ρ : Sv) (γ : Nst) (R : Sv → Nst → Prop), NS P w i0 a A σ H ρ γ ∧ S ρ γ R ∧
  ∀ ρ' γ' σ' H', R ρ' γ' → NS P w i0 a A σ' H' ρ' γ' → KeepX (fun b => b = a ∨ b ∈ A) H H' → D.nx σ' H'
section
variable {P : Program} {w : World} {H H' H1 H2 : Hp} {σ : L2.St} {ρ : Sv} {a : Addr} {A : List Addr} {γ : Nst} {i0 : Nat}
theorem NG.ext (h : NG P w H a A γ) : ∀ b, b = a ∨ b ∈ A → ∃ φ, H b = some (.ext φ) := by
  obtain ⟨h1, h2, o, vs, h3, h4, h5, h6, h7⟩ := h
  rintro b (rfl | hb)
  · exact ⟨_, h3⟩
  · obtain ⟨ks, _, o1, us, e1, _⟩ := pairedMem h7 b hb
    exact ⟨_, e1⟩
theorem KeepX.kp {A0 : Addr → Prop} (k : KeepX A0 H H') (h : ∀ b, A0 b → ∃ φ, H b = some (.ext φ)) : Kp H H' where
  tup := fun b xs e => k.keep b _ e fun m => by obtain ⟨φ, q⟩ := h b m; rw [e] at q; cases q
  frz := fun b o u e => k.keep b _ e fun m => by obtain ⟨φ, q⟩ := h b m; rw [e] at q; cases q
theorem NS.later (n : NS P w i0 a A σ H ρ γ) (k : KeepT H H') : NS P w i0 a A σ H' ρ γ := ⟨n.rep.same fun b o e => k.keep b o e, n.no, n.non, n.slot, n.ng.keepT k⟩
def forN (i0 : Nat) (G : Gt) (S : SttN) : List PyData → Sv → Nst → (Sv → Nst → Prop) → Prop
  | [], ρ, γ, R => R ρ γ
  | d :: l, ρ, γ, R => G d ρ fun ρ1 => NoOwn ρ1 ∧ ρ1[i0]? = some none ∧ S ρ1 γ fun ρ2 γ2 => forN i0 G S l ρ2 γ2 R
def sForN (i0 : Nat) (W : Wt) (G : Gt) (S : SttN) : SttN := fun ρ γ R => W ρ fun l ρ1 => ρ1 = ρ ∧ forN i0 G S l ρ γ R
end
section
variable {X : Cx} {tg iter e : Expr} {sts : List Stmt} {pos p1 p2 p3 p4 p5 : Pos} {W : Wt} {G : Gt} {S : SttN} {vs : List Nat} {i0 : Nat}
theorem psn_for (hp : PassesOwn (model X.prog X.w) X.A X.env X.xe) (hc : X.calm = true) (hi : DI X tg iter W) (hg : DG X tg vs G) (hvs : i0 ∉ vs) (hb : PSs X sts (rdN X.prog X.w i0 S))
    (hs : ∀ x, foldedSetIterable iter X.env x = pure x := by intro _; rfl) : PS X (.For tg iter sts [] pos) (rdN X.prog X.w i0 (sForN i0 W G S)) := by
  refine PS.imp (ps_for hp hc hi hg hb hs) fun D σ H ⟨a, A, ρ, γ, R, ns, hW, t⟩ => ⟨ρ, _, ns.rep, hW, fun l ρ1 H1 J ⟨e1, hF⟩ le1 rep1 sz it => ?_⟩
  have e1 := e1.symm
  subst e1
  have k1 := ns.no.keep le1
  have n1 := ns.later k1
  refine ⟨fun i m σ' H' => m = l.length - i ∧ i ≤ l.length ∧ ∃ ρ' γ', NS X.prog X.w i0 a A σ' H' ρ' γ' ∧ KeepX (fun b => b = a ∨ b ∈ A) H1 H' ∧ forN i0 G S (l.drop i) ρ' γ' R, ⟨l.length, by omega, by omega, ρ, γ, n1, (KeepT.refl _).x, by simpa using hF⟩, ?_⟩
  rintro i m σ' H' ⟨rfl, hi, ρ', γ', ns', kx, hF'⟩
  have kp : Kp H1 H' := kx.kp n1.ng.ext
  by_cases hlt : i < l.length
  · have hd : l[i]? = some l[i] := List.getElem?_eq_getElem hlt
    rw [List.drop_eq_getElem_cons hlt] at hF'
    obtain ⟨g1, g2⟩ := it.go i _ H' hd kp
    refine .inr ⟨g1, fun σ2 H2 => ∃ ρ2 γ2, NS X.prog X.w i0 a A σ2 H2 ρ2 γ2 ∧ KeepX (fun b => b = a ∨ b ∈ A) H1 H2 ∧ forN i0 G S (l.drop (i + 1)) ρ2 γ2 R, fun σ2 H2 ⟨ρ2, γ2, a1, a2, a3⟩ => ⟨l.length - (i + 1), by omega, rfl, hlt, ρ2, γ2, a1, a2, a3⟩, fun x H2 y => ?_⟩
    obtain ⟨s1, s2, hv⟩ := g2 x H2 y
    have ky : KeepT H' H2 := ⟨s1, s2⟩
    have ny := ns'.later ky
    refine ⟨ρ', l[i], _, ny.rep, hv, hF', fun ρ3 σ3 H3 ⟨no3, non3, hS⟩ le3 rep3 off hl3 => ?_⟩
    have k3 := ny.no.keep le3
    have n3 : NS X.prog X.w i0 a A σ3 H3 ρ3 γ' := ⟨rep3, no3, non3, (off i0 hvs).trans ny.slot, ny.ng.keepT k3⟩
    exact ⟨a, A, ρ3, γ', _, n3, hS, fun ρ4 γ4 σ4 H4 q n4 k4 => ⟨ρ4, γ4, n4, (kx.trans (ky.trans k3).x).trans k4, q⟩⟩
  · have e : i = l.length := by omega
    subst e
    rw [List.drop_length] at hF'
    exact .inl ⟨it.stop H' kp, t ρ' γ' σ' H' hF' ns' (k1.x.trans kx)⟩

/-! ### found[k][k2] = True -/
def insK (ks : List NestedKey) (k : NestedKey) : List NestedKey := if k ∈ ks then ks else ks ++ [k]
theorem kAt_trues (ks : List NestedKey) (k : NestedKey) : (kAt (ks.map fun k => (k, V.bl true)) k).isSome = decide (k ∈ ks) := by
  induction ks with
  | nil => simp [kAt]
  | cons x ks ih =>
    rw [List.map_cons, kAt_cons]
    by_cases h : x = k
    · rw [if_pos h]; simp [h]
    · rw [if_neg h, ih]
      exact decide_eq_decide.mpr ⟨fun m => List.mem_cons_of_mem _ m, fun m => (List.mem_cons.mp m).elim (fun e => absurd e.symm h) id⟩
theorem kPut_trues (ks : List NestedKey) (k : NestedKey) : kPut (ks.map fun k => (k, V.bl true)) k (V.bl true) = (insK ks k).map fun k => (k, V.bl true) := by
  unfold kPut insK
  rw [kAt_trues]
  by_cases h : k ∈ ks
  · rw [if_pos (by simpa using h), if_pos h, List.map_map]
    refine List.map_congr_left fun x _ => ?_
    show (if x = k then (x, V.bl true) else (x, V.bl true)) = _
    split <;> rfl
  · rw [if_neg (by simpa using h), if_neg h, List.map_append]; rfl
theorem nest_at {P : Program} {w : World} {H : Hp} {k : NestedKey} {ks : List NestedKey} : ∀ {γ : Nst} {vs : List (NestedKey × V)} {A : List Addr}, γ.map (·.1) = vs.map (·.1) → vs.map (·.2) = A.map V.ref → Paired (InN P w H) A (γ.map (·.2)) → A.Nodup → (γ.map (·.1)).Nodup → kAt γ k = some ks →
    ∃ b, kAt vs k = some (.ref b) ∧ b ∈ A ∧ InN P w H b ks ∧ ∀ (H' : Hp) (ks' : List NestedKey), Kp H H' → InN P w H' b ks' → (∀ c ∈ A, c ≠ b → H' c = H c) → Paired (InN P w H') A ((γ.map fun x => if x.1 = k then (x.1, ks') else x).map (·.2))
  | [], _, _, _, _, _, _, _, h => by cases h
  | _ :: _, [], _, h, _, _, _, _, _ => by cases h
  | _ :: _, _ :: _, [], _, h, _, _, _, _ => by cases h
  | p :: γ, q :: vs, c :: A, h1, h2, h3, h4, h5, h => by
    rw [List.map_cons, List.map_cons] at h1 h2
    injection h1 with e1 e2
    injection h2 with e3 e4
    have h3' : Paired (InN P w H) (c :: A) (p.2 :: γ.map (·.2)) := h3
    have n4 := List.nodup_cons.mp h4
    rw [List.map_cons] at h5
    have n5 := List.nodup_cons.mp h5
    cases h3' with
    | cons g t =>
      rw [kAt_cons] at h
      by_cases e : p.1 = k
      · rw [if_pos e] at h
        cases h
        refine ⟨c, by rw [kAt_cons, ← e1, if_pos e, e3], List.mem_cons_self, g, fun H' ks' kp hi hoth => ?_⟩
        rw [List.map_cons, List.map_cons, if_pos e]
        refine .cons hi ?_
        have : (γ.map fun x => if x.1 = k then (x.1, ks') else x) = γ := by
          rw [List.map_congr_left (g := id) fun x hx => ?_, List.map_id]
          rw [if_neg fun z => n5.1 (by rw [e, ← z]; exact List.mem_map.mpr ⟨x, hx, rfl⟩)]; rfl
        rw [this]
        exact paired_keep kp t fun d hd => hoth d (List.mem_cons_of_mem _ hd) fun z => n4.1 (by rw [← z]; exact hd)
      · rw [if_neg e] at h
        obtain ⟨b, a1, a2, a3, a4⟩ := nest_at e2 e4 t n4.2 n5.2 h
        refine ⟨b, by rw [kAt_cons, ← e1, if_neg e]; exact a1, List.mem_cons_of_mem _ a2, a3, fun H' ks' kp hi hoth => ?_⟩
        rw [List.map_cons, List.map_cons, if_neg e]
        exact .cons (g.keep kp (hoth c List.mem_cons_self fun z => n4.1 (by rw [z]; exact a2))) (a4 H' ks' kp hi fun d hd => hoth d (List.mem_cons_of_mem _ hd))
def sPutN (j1 j2 : Nat) : SttN := fun ρ γ R => ∃ d1 d2 ks, ρ[j1]? = some (some (.dat (.d d1))) ∧ ρ[j2]? = some (some (.dat (.d d2))) ∧ KeyOk d1 ∧ KeyOk d2 ∧ kAt γ (nkOf d1) = some ks ∧ ks.length < 1000 ∧ R ρ (kPut γ (nkOf d1) (insK ks (nkOf d2)))
theorem psn_put {j1 j2 : Nat} {x y z : Str} (hu : X.A.units + 64 < cLine) (h0 : X.N[i0]? = some x) (h1 : X.N[j1]? = some y) (h2 : X.N[j2]? = some z) (v0 : Vis X.env.scope x) (v1 : Vis X.env.scope y) (v2 : Vis X.env.scope z)
    (q0 : (x == ("__debug__" : Str)) = false := by decide) (q1 : (y == ("__debug__" : Str)) = false := by decide) (q2 : (z == ("__debug__" : Str)) = false := by decide)
    (r0 : (x == ("__classdict__" : Str)) = false := by decide) (r1 : (y == ("__classdict__" : Str)) = false := by decide) (r2 : (z == ("__classdict__" : Str)) = false := by decide)
    (hs : swapsWithSole [.Subscript (.Subscript (.Name x p1) (.Name y p2) p3) (.Name z p4) p5] e pos.line X.env = pure false := by rfl) (hw : swappedStores [.Subscript (.Subscript (.Name x p1) (.Name y p2) p3) (.Name z p4) p5] e X.env = pure none := by rfl)
    (ha1 : (assignEach [.Subscript (.Subscript (.Name x p1) (.Name y p2) p3) (.Name z p4) p5] X.env).map (·.2) = [assign (.Subscript (.Subscript (.Name x p1) (.Name y p2) p3) (.Name z p4) p5) X.env] := by rfl)
    (ha : ∀ v, assign (.Subscript (.Subscript (.Name x p1) (.Name y p2) p3) (.Name z p4) p5) X.env v = (do let ov ← holding [v] (eval (.Subscript (.Name x p1) (.Name y p2) p3) X.env); let iv ← holding [v, ov] (eval (.Name z p4) X.env); standAt p5; holding [v, ov, iv] (setItem ov iv v); release [v, ov, iv] []) := by intro _; rfl)
    (he : PE X e (tC (.bl true))) : PS X (.Assign [.Subscript (.Subscript (.Name x p1) (.Name y p2) p3) (.Name z p4) p5] e pos) (rdN X.prog X.w i0 (sPutN j1 j2)) := by
  refine PS.imp (ps_asg he (pg_sub (pe_ix (ix_V hu) (pe_var h0 v0 q0 r0) (pe_var h1 v1 q1 r1) (fun _ _ => rfl)) (pe_var h2 v2 q2 r2) (set_V hu) ha) hs hw ha1) fun D σ H ⟨a, A, ρ, γ, R, ns, ⟨d1, d2, ks, e1, e2, hk1, hk2, hat, hlen, hR⟩, t⟩ => ?_
  obtain ⟨v1', s1, hv1⟩ := ns.rep.dat j1 _ e1
  obtain ⟨v2', s2, hv2⟩ := ns.rep.dat j2 _ e2
  have key : ∀ {v : V} {d : PyData}, Dtv X.prog X.w H v (.d d) → KeyOk d → ∃ b, v = .ref b ∧ NkV H (.ref b) (nkOf d) := fun {v d} h hk => by
    obtain ⟨l, rfl⟩ := hk.tup
    have h : Dv H v (.tuple l) := h
    cases h with
    | tup g1 g2 => exact ⟨_, rfl, hk.nk.v (.tup g1 g2)⟩
  obtain ⟨b1, rfl, n1⟩ := key hv1 hk1
  obtain ⟨b2, rfl, n2⟩ := key hv2 hk2
  obtain ⟨hnA, hnd, o, vs, ha3, hD, hvs, hks, hpr⟩ := ns.ng
  have hkn : (γ.map (·.1)).Nodup := by rw [hks]; exact hD.keysNodup
  obtain ⟨b, hb, hbA, ⟨o1, us, g1, g2, g3⟩, hup⟩ := nest_at hks hvs hpr hnd hkn hat
  refine ⟨_, ns.slot, _, s1, a, b1, nkOf d1, o, vs, _, rfl, rfl, .inl ha3, hD, n1, hk1.dep, hb, _, s2, b, b2, nkOf d2, o1, us, rfl, rfl, g1, g2, by rw [g3, List.length_map]; omega, n2, hk2.dep, fun o2 D2 => ?_⟩
  subst g3
  rw [kPut_trues] at D2
  have kp : Kp H (upd H b (.ext (objIs b o2))) := kp_put (.inr ⟨_, g1⟩)
  have hba : b ≠ a := fun z => hnA (by rw [← z]; exact hbA)
  have hin : InN X.prog X.w (upd H b (.ext (objIs b o2))) b (insK ks (nkOf d2)) := ⟨o2, _, upd_same, D2, rfl⟩
  have hsome : (kAt γ (nkOf d1)).isSome = true := by rw [hat]; rfl
  refine t ρ _ σ _ hR ⟨ns.rep.of kp fun c m => absurd m (ns.no.emp c), ns.no, ns.non, ns.slot, hnA, hnd, o, vs, ?_, hD.keep kp, hvs, ?_, ?_⟩ ⟨fun c u ec nc => ?_, fun c ec => ?_⟩
  · rw [upd_ne (Ne.symm hba)]; exact ha3
  · rw [kPut_keys, if_pos hsome]; exact hks
  · unfold kPut
    rw [if_pos hsome]
    exact hup _ _ kp hin fun c _ hc => upd_ne hc
  · rw [upd_ne fun z => nc (.inr (by rw [z]; exact hbA))]; exact ec
  · by_cases hc : c = b
    · rw [hc, upd_same] at ec; cases ec
    · rw [upd_ne hc] at ec; exact ec
end
end DL
end DLy
section DLz
set_option Elab.async false
set_option linter.all false
set_option maxRecDepth 100000
set_option maxHeartbeats 400000
/-! DLz: a dict of own dicts is returned; defs by values -/
namespace DL
open PySem PySem.Spec PyProof.Rows L2
section
variable {X : Cx} {pos p1 : Pos} {i0 : Nat}
theorem inN_fz {P : Program} {w : World} {H : Hp} {b : Addr} {ks : List NestedKey} {od : Obj} (h : InN P w H b ks) : ∃ u, H b = some u ∧ Mut (some u) ∧ FzK P w (upd H b (.frz od u)) (.ref b) (trues ks) := by
  obtain ⟨o, us, h1, h2, h3⟩ := h
  have k := kp_put (H := H) (p := b) (o := .frz od (.ext (objIs b o))) (.inr ⟨_, h1⟩)
  refine ⟨_, h1, True.intro, b, od, o, us, rfl, upd_same, h2.keep k, ?_, ?_⟩
  · subst h3; simp [trues]
  · subst h3
    clear h2 h1
    induction ks with
    | nil => exact .nil
    | cons x ks ih => exact .cons (.bl true) ih
/-- the inner dicts locked -/
theorem lock_in {pins : List (Addr × Obj)} {s : Shared} {σ : L2.St} (A : List Addr) : ∀ (r : List (List NestedKey)) (H : Hp), Inv X pins σ H s → A.Nodup → Paired (InN X.prog X.w H) A r → ∃ H', Inv X pins σ H' s ∧ KeepX (fun c => c ∈ A) H H' ∧ FzAll X.prog X.w H' (A.map V.ref) r := by
  induction A with
  | nil =>
    intro r H I _ h
    cases h
    exact ⟨H, I, ⟨fun _ _ e _ => e, fun _ e => e⟩, .nil⟩
  | cons b A ih =>
    intro r H I hn h
    cases h with
    | @cons _ ks _ r h t =>
    have n := List.nodup_cons.mp hn
    obtain ⟨o, us, hu, h2, h3⟩ := h
    obtain ⟨od, I1⟩ := I.lock hu True.intro
    obtain ⟨u', hu', _, hf⟩ := inN_fz (od := od) (⟨o, us, hu, h2, h3⟩ : InN X.prog X.w H b ks)
    rw [hu] at hu'
    cases hu'
    have kp : Kp H (upd H b (.frz od (.ext (objIs b o)))) := kp_put (.inr ⟨_, hu⟩)
    have hne : ∀ c ∈ A, c ≠ b := fun c hc z => n.1 (by rw [← z]; exact hc)
    obtain ⟨H', I2, k2, f2⟩ := ih r _ I1 n.2 (paired_keep kp t fun c hc => upd_ne (hne c hc))
    have k12 : Kp (upd H b (.frz od (.ext (objIs b o)))) H' := k2.kp fun c hc => by
      obtain ⟨ks', _, o, us, e, _⟩ := pairedMem t c hc
      exact ⟨_, by rw [upd_ne (hne c hc)]; exact e⟩
    refine ⟨H', I2, ⟨fun c o e hc => ?_, fun c e => ?_⟩, .cons (hf.keep k12) f2⟩
    · refine k2.keep c o ?_ fun m => hc (List.mem_cons_of_mem _ m)
      rw [upd_ne fun z => hc (by rw [z]; exact List.mem_cons_self)]
      exact e
    · have := k2.trk c e
      by_cases hcb : c = b
      · rw [hcb, upd_same] at this; cases this
      · rw [upd_ne hcb] at this; exact this
theorem lock_nest {pins : List (Addr × Obj)} {s : Shared} {σ : L2.St} {H : Hp} {a : Addr} {A : List Addr} {γ : Nst} (I : Inv X pins σ H s) (h : NG X.prog X.w H a A γ) : ∃ H', Inv X pins σ H' s ∧ KeepX (fun b => b = a ∨ b ∈ A) H H' ∧ Dtv X.prog X.w H' (.ref a) (.kk γ) := by
  obtain ⟨h1, h2, o, vs, h3, h4, h5, h6, h7⟩ := h
  obtain ⟨H1, I1, k1, f1⟩ := lock_in A _ H I h2 h7
  have kp1 : Kp H H1 := k1.kp fun c hc => by
    obtain ⟨ks', _, o, us, e, _⟩ := pairedMem h7 c hc
    exact ⟨_, e⟩
  have ha := k1.keep a _ h3 h1
  obtain ⟨od, I2⟩ := I1.lock ha True.intro
  have kp2 : Kp H1 (upd H1 a (.frz od (.ext (objIs a o)))) := kp_put (.inr ⟨_, ha⟩)
  refine ⟨_, I2, ⟨fun c u e hc => ?_, fun c e => ?_⟩, a, od, o, vs, rfl, upd_same, (h4.keep kp1).keep kp2, h6, ?_⟩
  · rw [upd_ne fun z => hc (.inl z)]
    exact k1.keep c u e fun m => hc (.inr m)
  · by_cases hca : c = a
    · rw [hca, upd_same] at e; cases e
    · rw [upd_ne hca] at e; exact k1.trk c e
  · rw [h5]; exact f1.keep kp2
/-- return found -/
def sRetN (F : Dt → Prop) : SttN := fun _ γ _ => F (.kk γ)
def rdRetN (P : Program) (w : World) (i0 : Nat) : TS := fun D σ H => ∃ (a : Addr) (A : List Addr) (ρ : Sv) (γ : Nst), NS P w i0 a A σ H ρ γ ∧ ∀ H', KeepX (fun b => b = a ∨ b ∈ A) H H' → Dtv P w H' (.ref a) (.kk γ) → D.rt (.ref a) H'
theorem psn_ret {x : Str} (h0 : X.N[i0]? = some x) (v0 : Vis X.env.scope x) (q0 : (x == ("__debug__" : Str)) = false := by decide) (r0 : (x == ("__classdict__" : Str)) = false := by decide) : PS X (.Return (some (.Name x p1)) pos) (rdRetN X.prog X.w i0) := by
  refine ⟨fun pins s σ H D I ⟨a, A, ρ, γ, ns, t⟩ => ?_⟩
  refine wpAny_Return_some (thn ((pe_var h0 v0 q0 r0).run pins s σ H (fun v H1 => v = .ref a ∧ H1 = H) I ⟨_, ns.slot, rfl, rfl⟩) fun v s1 ⟨z, H1, I1, r1, e1, e2⟩ => ?_)
  subst e1 e2
  obtain ⟨H2, I2, k2, hv⟩ := lock_nest I1 ns.ng
  exact ⟨.ref a, σ, H2, I2, r1, t H2 k2 hv⟩
end
section
variable {P : Program} {w : World} {K : PySem.W.Frag} {mg : Str → Option Value} {base : Heap} {H : Hp}
theorem startD_no (N : List Str) (ds : List Dt) : NoOwn (startD N ds) := fun i c e => by
  obtain ⟨d, _, rfl⟩ := startD_get e
  rfl
/-- a def whose body is read by values -/
theorem cal_raw {x qual : Str} {st : Stmt} {f : Addr} {fd : FuncData} {N ps : List Str} {k n : Nat} {Fp : Pr} (F : Fun K x qual st f fd) (gx : mg x = some (.ref f)) (b : Binds K fd ps []) (S : FnScope N ps (defScope st)) (hn : ps.length = n)
    (len : ∀ ds R, Fp ds R → ds.length = n)
    (hbody : ∀ (cdv : Value) (A : Around) (outer : List Env) (s : Shared) (H : Hp) (E : XK), RoomG k (A.deeper (envOfC qual (defScope st) s.heap.objs.size f cdv)) →
      ∃ t, PSs (Cb P w K mg base N qual st f cdv A outer s H E) (defBody st) t ∧ ∀ ds R, Fp ds R → ∀ vs (H : Hp) (Q : VK), Rep P w H (L2.start N vs) (startD N ds) →
        (∀ d v H', R d → (∀ b o, H b = some o → H' b = some o) → (∀ b, H' b = none → H b = none) → Dtv P w H' v d → Q v H') → t { nx := fun _ H' => Q .non H', rt := Q } (L2.start N vs) H) :
    Cal P w K mg base (k + 1) x n Fp := by
  refine ⟨len, f, fd, ps, gx, F.kp, b, fnG_of F S (fun vs H Q E h => ?_) fun cdv A outer s H vs Q E hr h => ?_⟩
  · obtain ⟨ds, R, h1, h2, _⟩ := h
    rw [h1.length, h2, hn]
  · obtain ⟨ds, R, hd, hl, hF, hQ⟩ := h
    obtain ⟨t, hS, hw⟩ := hbody cdv A outer s H E hr
    obtain ⟨rep, no⟩ := rep_start (P := P) (w := w) (N := N) hd
    exact ⟨_, hS.nox, hw ds R hF vs H Q rep hQ⟩
end
end DL
end DLz
section M1
/-! M1: words, reduction, ways (plain mathematics) -/
namespace SM
section
variable {S : Type} [DecidableEq S]
def push (w : List S) (s : S) : List S := if w.getLast? = some s then w.dropLast else w ++ [s]
def red (w : List S) : List S := w.foldl push []
def clen : List S → List S → Nat
  | a :: u, b :: v => if a = b then clen u v + 1 else 0
  | _, _ => 0
def edg : List S → List S → List (List S × S)
  | _, [] => []
  | p, a :: x => (p, a) :: edg (p ++ [a]) x
def way (u v : List S) : List (List S × S) := (edg (u.take (clen u v)) (u.drop (clen u v))).reverse ++ edg (v.take (clen u v)) (v.drop (clen u v))

theorem clen_le1 : ∀ u v : List S, clen u v ≤ u.length
  | [], _ => by simp [clen]
  | a :: u, [] => by simp [clen]
  | a :: u, b :: v => by
    rw [clen]; split
    · exact Nat.succ_le_succ (clen_le1 u v)
    · exact Nat.zero_le _
theorem clen_le2 : ∀ u v : List S, clen u v ≤ v.length
  | [], _ => by simp [clen]
  | a :: u, [] => by simp [clen]
  | a :: u, b :: v => by
    rw [clen]; split
    · exact Nat.succ_le_succ (clen_le2 u v)
    · exact Nat.zero_le _
theorem clen_lt : ∀ (u v : List S) (i : Nat), i < clen u v → ∃ a, u[i]? = some a ∧ v[i]? = some a
  | [], _, i, h => by simp [clen] at h
  | a :: u, [], i, h => by simp [clen] at h
  | a :: u, b :: v, i, h => by
    rw [clen] at h
    split at h
    · rename_i e
      cases i with
      | zero => exact ⟨a, rfl, by rw [e]; rfl⟩
      | succ i => exact clen_lt u v i (Nat.lt_of_succ_lt_succ h)
    · exact absurd h (Nat.not_lt_zero _)
theorem clen_end : ∀ (u v : List S) (a b : S), u[clen u v]? = some a → v[clen u v]? = some b → a ≠ b
  | [], _, a, b, h, _ => by simp [clen] at h
  | a' :: u, [], a, b, _, h => by simp [clen] at h
  | c :: u, d :: v, a, b, h, k => by
    rw [clen] at h k
    split at h
    · rename_i e
      rw [if_pos e] at k
      exact clen_end u v a b h k
    · rename_i e
      rw [if_neg e] at k
      cases h; cases k
      exact e
theorem edg_get : ∀ (p x : List S) (i : Nat), (edg p x)[i]? = x[i]?.map fun a => (p ++ x.take i, a)
  | p, [], i => by simp [edg]
  | p, a :: x, 0 => by simp [edg]
  | p, a :: x, i + 1 => by
    rw [edg, List.getElem?_cons_succ, edg_get (p ++ [a]) x i, List.getElem?_cons_succ]
    simp [List.take_succ_cons]
theorem edg_len (p x : List S) : (edg p x).length = x.length := by
  induction x generalizing p with
  | nil => rfl
  | cons a x ih => rw [edg, List.length_cons, ih, List.length_cons]
theorem edg_at (u : List S) (m i : Nat) : (edg (u.take m) (u.drop m))[i]? = u[m + i]?.map fun a => (u.take (m + i), a) := by
  rw [edg_get, List.getElem?_drop]
  cases e : u[m + i]? with
  | none => rfl
  | some a =>
    have h : m ≤ u.length := by
      have := (List.getElem?_eq_some_iff.mp e).1
      omega
    rw [Option.map_some, Option.map_some, List.take_drop, List.take_append_drop']
where
  List.take_append_drop' : u.take m ++ (u.take (m + i)).drop m = u.take (m + i) := by
    have : u.take m = (u.take (m + i)).take m := by rw [List.take_take, Nat.min_eq_left (Nat.le_add_right _ _)]
    rw [this, List.take_append_drop]
theorem up_eq (u : List S) (m : Nat) (d : S) (hm : m ≤ u.length) : ((List.range (u.length - m)).map fun k => (u.take (u.length - 1 - k), u.getD (u.length - 1 - k) d)) = (edg (u.take m) (u.drop m)).reverse := by
  refine List.ext_getElem? fun i => ?_
  by_cases h : i < u.length - m
  · rw [List.getElem?_map, List.getElem?_range h, List.getElem?_reverse (by rw [edg_len, List.length_drop]; exact h), edg_len, List.length_drop, edg_at]
    have e : m + (u.length - m - 1 - i) = u.length - 1 - i := by omega
    have l : u.length - 1 - i < u.length := by omega
    rw [e, List.getElem?_eq_getElem l, Option.map_some, Option.map_some, List.getD_eq_getElem?_getD, List.getElem?_eq_getElem l]
    rfl
  · rw [List.getElem?_eq_none (by rw [List.length_map, List.length_range]; omega), List.getElem?_eq_none (by rw [List.length_reverse, edg_len, List.length_drop]; omega)]
theorem down_eq (v : List S) (m : Nat) (d : S) (hm : m ≤ v.length) : ((List.range (v.length - m)).map fun k => (v.take (m + k), v.getD (m + k) d)) = edg (v.take m) (v.drop m) := by
  refine List.ext_getElem? fun i => ?_
  by_cases h : i < v.length - m
  · have l : m + i < v.length := by omega
    rw [List.getElem?_map, List.getElem?_range h, edg_at, List.getElem?_eq_getElem l, Option.map_some, Option.map_some, List.getD_eq_getElem?_getD, List.getElem?_eq_getElem l]
    rfl
  · rw [List.getElem?_eq_none (by rw [List.length_map, List.length_range]; omega), List.getElem?_eq_none (by rw [edg_len, List.length_drop]; omega)]
theorem push_len (w : List S) (s : S) : (push w s).length ≤ w.length + 1 := by
  unfold push; split
  · rw [List.length_dropLast]; omega
  · simp
theorem fold_len : ∀ (w f : List S), (w.foldl push f).length ≤ f.length + w.length
  | [], f => by simp
  | s :: w, f => by
    have := fold_len w (push f s)
    have := push_len f s
    rw [List.foldl_cons, List.length_cons]; omega
theorem red_len (w : List S) : (red w).length ≤ w.length := by
  have := fold_len w []
  simpa [red] using this
end
end SM
end M1
section M2
set_option linter.all false
/-! M2: vertices, reduced words, leases' ends (plain mathematics) -/
namespace SM
section
variable {S : Type} [DecidableEq S]
/-- no two neighbours alike -/
def IsRed : List S → Prop
  | a :: b :: r => a ≠ b ∧ IsRed (b :: r)
  | _ => True
theorem IsRed.tail : ∀ {a : S} {r : List S}, IsRed (a :: r) → IsRed r
  | _, [], _ => True.intro
  | _, _ :: _, h => h.2
theorem isRed_app : ∀ {u : List S} {s : S}, IsRed u → (u.getLast? ≠ some s) → IsRed (u ++ [s])
  | [], _, _, _ => True.intro
  | [a], s, _, h => ⟨fun e => h (by rw [e]; rfl), True.intro⟩
  | a :: b :: r, s, h1, h2 => ⟨h1.1, isRed_app (u := b :: r) h1.2 (fun e => h2 (by rw [List.getLast?_cons_cons]; exact e))⟩
theorem isRed_pre : ∀ {u v : List S}, IsRed (u ++ v) → IsRed u
  | [], _, _ => True.intro
  | [a], _, _ => True.intro
  | a :: b :: r, v, h => ⟨h.1, isRed_pre (u := b :: r) (v := v) h.2⟩
theorem push_isRed {w : List S} {s : S} (h : IsRed w) : IsRed (push w s) := by
  unfold push
  split
  · rename_i e
    obtain ⟨r, rfl⟩ := List.getLast?_eq_some_iff.mp e
    rw [List.dropLast_concat]
    exact isRed_pre h
  · rename_i e
    exact isRed_app h e
theorem fold_isRed : ∀ (w f : List S), IsRed f → IsRed (w.foldl push f)
  | [], _, h => h
  | _ :: w, _, h => fold_isRed w _ (push_isRed h)
theorem red_isRed (w : List S) : IsRed (red w) := fold_isRed w [] True.intro
theorem fold_id : ∀ (v u : List S), IsRed (u ++ v) → v.foldl push u = u ++ v
  | [], u, _ => by simp
  | s :: v, u, h => by
    have hp : push u s = u ++ [s] := by
      unfold push
      rw [if_neg]
      intro e
      obtain ⟨r, rfl⟩ := List.getLast?_eq_some_iff.mp e
      have : IsRed (r ++ (s :: s :: v)) := by simpa using h
      clear h
      induction r with
      | nil => exact this.1 rfl
      | cons a r ih => exact ih (by simp at e; simp) this.tail
    rw [List.foldl_cons, hp, fold_id v (u ++ [s]) (by simpa using h)]
    simp
theorem red_id {w : List S} (h : IsRed w) : red w = w := fold_id w [] h
theorem red_snoc {w : List S} (s : S) (h : IsRed w) : red (w ++ [s]) = push w s := by
  unfold red
  rw [List.foldl_append]
  show push (red w) s = _
  rw [red_id h]

/-! ### vertices -/
def vx (rs : List S) (pl : List Nat) : Nat → List S
  | 0 => []
  | j + 1 => match rs[j]? with
    | some s => if j ∈ pl then push (vx rs pl j) s else vx rs pl j
    | none => vx rs pl j
theorem vx_isRed (rs : List S) (pl : List Nat) : ∀ j, IsRed (vx rs pl j)
  | 0 => True.intro
  | j + 1 => by
    unfold vx
    split
    · split
      · exact push_isRed (vx_isRed rs pl j)
      · exact vx_isRed rs pl j
    · exact vx_isRed rs pl j
theorem vx_len (rs : List S) (pl : List Nat) : ∀ j, (vx rs pl j).length ≤ j
  | 0 => Nat.le_refl _
  | j + 1 => by
    have := vx_len rs pl j
    unfold vx
    split
    · split
      · have := push_len (vx rs pl j) (by assumption)
        omega
      · omega
    · omega
theorem vx_step {rs : List S} {pl : List Nat} {j : Nat} {s : S} (h : rs[j]? = some s) : vx rs pl (j + 1) = if j ∈ pl then push (vx rs pl j) s else vx rs pl j := by
  rw [vx, h]
/-- the edges of s on the way between two plans' vertices at stretch k -/
def eds (rs : List S) (p q : List Nat) (k : Nat) (s : S) : List (List S × S) := (way (vx rs p k) (vx rs q k)).filter fun e => decide (e.2 = s)
def apn (rs : List S) (p q : List Nat) (l : S × Nat) : Nat := (eds rs p q l.2 l.1).length
theorem way_len (u v : List S) : (way u v).length ≤ u.length + v.length := by
  unfold way
  rw [List.length_append, List.length_reverse, edg_len, edg_len, List.length_drop, List.length_drop]
  omega
end
end SM
end M2
section M3
set_option linter.all false
/-! M3: plans, breadth-first search (plain mathematics) -/
namespace SM
/-- a plan for n restarts: hops in order -/
def PlanOk (n : Nat) (p : List Nat) : Prop := p.Pairwise (· < ·) ∧ ∀ h ∈ p, h < n
theorem PlanOk.nil (n : Nat) : PlanOk n [] := ⟨List.Pairwise.nil, by simp⟩
theorem PlanOk.ext {n : Nat} {p q : List Nat} (h1 : PlanOk n p) (h2 : PlanOk n q) (h : ∀ i, i ∈ p ↔ i ∈ q) : p = q := by
  have key : ∀ p q : List Nat, p.Pairwise (· < ·) → q.Pairwise (· < ·) → (∀ i, i ∈ p ↔ i ∈ q) → p = q := by
    intro p
    induction p with
    | nil =>
      intro q _ _ h
      cases q with
      | nil => rfl
      | cons b q => exact absurd ((h b).mpr (by simp)) (by simp)
    | cons a p ih =>
      intro q hp hq h
      cases q with
      | nil => exact absurd ((h a).mp (by simp)) (by simp)
      | cons b q =>
        have pa := (List.pairwise_cons.mp hp).1
        have qb := (List.pairwise_cons.mp hq).1
        have e : a = b := by
          rcases List.mem_cons.mp ((h a).mp (by simp)) with e | e
          · exact e
          · rcases List.mem_cons.mp ((h b).mpr (by simp)) with e2 | e2
            · exact e2.symm
            · have := pa b e2
              have := qb a e
              omega
        subst e
        refine congrArg (a :: ·) (ih q (List.pairwise_cons.mp hp).2 (List.pairwise_cons.mp hq).2 fun i => ⟨fun hi => ?_, fun hi => ?_⟩)
        · rcases List.mem_cons.mp ((h i).mp (List.mem_cons_of_mem _ hi)) with e2 | e2
          · have := pa i hi; omega
          · exact e2
        · rcases List.mem_cons.mp ((h i).mpr (List.mem_cons_of_mem _ hi)) with e2 | e2
          · have := qb i hi; omega
          · exact e2
  exact key p q h1.1 h2.1 h
/-- all plans -/
def plans : Nat → List (List Nat)
  | 0 => [[]]
  | n + 1 => plans n ++ (plans n).map (· ++ [n])
theorem plans_len : ∀ n, (plans n).length = 2 ^ n
  | 0 => rfl
  | n + 1 => by rw [plans, List.length_append, List.length_map, plans_len n, Nat.pow_succ]; omega
theorem plans_ok : ∀ n, ∀ p ∈ plans n, PlanOk n p
  | 0, p, h => by
    rw [plans, List.mem_singleton] at h
    rw [h]; exact .nil 0
  | n + 1, p, h => by
    rw [plans, List.mem_append] at h
    rcases h with h | h
    · have := plans_ok n p h
      exact ⟨this.1, fun i hi => Nat.lt_succ_of_lt (this.2 i hi)⟩
    · obtain ⟨q, hq, rfl⟩ := List.mem_map.mp h
      have := plans_ok n q hq
      refine ⟨List.pairwise_append.mpr ⟨this.1, List.pairwise_singleton _ _, fun a ha b hb => ?_⟩, fun i hi => ?_⟩
      · rw [List.mem_singleton.mp hb]; exact this.2 a ha
      · rcases List.mem_append.mp hi with h | h
        · exact Nat.lt_succ_of_lt (this.2 i h)
        · rw [List.mem_singleton.mp h]; exact Nat.lt_succ_self _
theorem plans_all : ∀ n p, PlanOk n p → p ∈ plans n
  | 0, p, h => by
    cases p with
    | nil => simp [plans]
    | cons a p => exact absurd (h.2 a (by simp)) (Nat.not_lt_zero _)
  | n + 1, p, h => by
    rw [plans, List.mem_append]
    by_cases hn : n ∈ p
    · right
      refine List.mem_map.mpr ⟨p.filter (· < n), plans_all n _ ⟨h.1.filter _, fun i hi => by simpa using (List.mem_filter.mp hi).2⟩, ?_⟩
      have h2 : PlanOk n (p.filter (· < n)) := ⟨h.1.filter _, fun i hi => by simpa using (List.mem_filter.mp hi).2⟩
      have h3 : PlanOk (n + 1) (p.filter (· < n) ++ [n]) := by
        refine ⟨List.pairwise_append.mpr ⟨h2.1, List.pairwise_singleton _ _, fun a ha b hb => ?_⟩, fun i hi => ?_⟩
        · rw [List.mem_singleton.mp hb]; exact h2.2 a ha
        · rcases List.mem_append.mp hi with h | h
          · exact Nat.lt_succ_of_lt (h2.2 i h)
          · rw [List.mem_singleton.mp h]; exact Nat.lt_succ_self _
      refine PlanOk.ext h3 h fun i => ⟨fun hi => ?_, fun hi => ?_⟩
      · rcases List.mem_append.mp hi with h | h
        · exact (List.mem_filter.mp h).1
        · rw [List.mem_singleton.mp h]; exact hn
      · rcases Nat.lt_or_ge i n with hl | hl
        · exact List.mem_append.mpr (.inl (List.mem_filter.mpr ⟨hi, by simpa using hl⟩))
        · have := h.2 i hi
          have e : i = n := by omega
          rw [e]; simp
    · left
      refine plans_all n p ⟨h.1, fun i hi => ?_⟩
      have := h.2 i hi
      rcases Nat.lt_or_ge i n with hl | hl
      · exact hl
      · have e : i = n := by omega
        rw [e] at hi; exact absurd hi hn
theorem nodup_sub {α : Type} [DecidableEq α] : ∀ {l m : List α}, l.Nodup → (∀ x ∈ l, x ∈ m) → l.length ≤ m.length
  | [], m, _, _ => Nat.zero_le _
  | a :: l, m, h, s => by
    have hm := s a (by simp)
    have h1 := List.nodup_cons.mp h
    have := nodup_sub (l := l) (m := m.erase a) h1.2 fun x hx => by
      have hx2 := s x (List.mem_cons_of_mem _ hx)
      exact (List.mem_erase_of_ne (fun e => h1.1 (by rw [← e]; exact hx))).mpr hx2
    rw [List.length_erase_of_mem hm] at this
    have := List.length_pos_of_mem hm
    rw [List.length_cons]; omega
theorem plans_few {n : Nat} {l : List (List Nat)} (h : l.Nodup) (ho : ∀ p ∈ l, PlanOk n p) : l.length ≤ 2 ^ n := by
  rw [← plans_len n]
  exact nodup_sub h fun p hp => plans_all n p (ho p hp)

theorem PlanOk.nodup {n : Nat} {p : List Nat} (h : PlanOk n p) : p.Nodup := h.1.imp fun {a b} q => by omega
theorem PlanOk.len {n : Nat} {p : List Nat} (h : PlanOk n p) : p.length ≤ n := by
  have := nodup_sub (m := List.range n) h.nodup fun i hi => List.mem_range.mpr (h.2 i hi)
  rwa [List.length_range] at this
/-! ### search -/
section
variable {α : Type} [DecidableEq α]
def add1 (d : Nat) (fd : List (α × Nat)) (l : α) : List (α × Nat) := if l ∈ fd.map (·.1) then fd else fd ++ [(l, d + 1)]
def bfsRun (nb : α → List α) : Nat → List (α × Nat) → Nat → List (α × Nat)
  | 0, fd, _ => fd
  | n + 1, fd, i => match fd[i]? with
    | some x => bfsRun nb n ((nb x.1).foldl (add1 x.2) fd) (i + 1)
    | none => fd
def bfs (B : Nat) (nb : α → List α) (p : α) : List (α × Nat) := bfsRun nb B [(p, 0)] 0
/-- what holds of what is found -/
structure BfsOk (ok : α → Prop) (fd : List (α × Nat)) : Prop where
  nd : (fd.map (·.1)).Nodup
  ok : ∀ x ∈ fd, ok x.1
theorem BfsOk.add1 {ok : α → Prop} {fd : List (α × Nat)} (h : BfsOk ok fd) (d : Nat) {l : α} (hl : ok l) : BfsOk ok (add1 d fd l) := by
  unfold SM.add1
  split
  · exact h
  · rename_i hm
    refine ⟨?_, fun x hx => ?_⟩
    · rw [List.map_append]
      refine List.nodup_append.mpr ⟨h.nd, by simp, fun a ha b hb => ?_⟩
      rw [List.map_cons, List.map_nil, List.mem_singleton] at hb
      rintro rfl
      have hb : a = l := hb
      exact hm (by rw [← hb]; exact ha)
    · rcases List.mem_append.mp hx with h1 | h1
      · exact h.ok x h1
      · rw [List.mem_singleton.mp h1]; exact hl
theorem BfsOk.fold {ok : α → Prop} (d : Nat) : ∀ (ls : List α) {fd : List (α × Nat)}, BfsOk ok fd → (∀ l ∈ ls, ok l) → BfsOk ok (ls.foldl (SM.add1 d) fd)
  | [], _, h, _ => h
  | l :: ls, fd, h, hl => BfsOk.fold d ls (h.add1 d (hl l (by simp))) fun x hx => hl x (List.mem_cons_of_mem _ hx)
theorem add1_len (d : Nat) (fd : List (α × Nat)) (l : α) : fd.length ≤ (add1 d fd l).length := by
  unfold add1; split
  · exact Nat.le_refl _
  · rw [List.length_append]; omega
theorem add1_pre (d : Nat) (fd : List (α × Nat)) (l : α) : ∃ t, add1 d fd l = fd ++ t := by
  unfold add1; split
  · exact ⟨[], by simp⟩
  · exact ⟨_, rfl⟩
theorem fold_pre (d : Nat) : ∀ (ls : List α) (fd : List (α × Nat)), ∃ t, ls.foldl (add1 d) fd = fd ++ t
  | [], fd => ⟨[], by simp⟩
  | l :: ls, fd => by
    obtain ⟨t1, e1⟩ := add1_pre d fd l
    obtain ⟨t2, e2⟩ := fold_pre d ls (add1 d fd l)
    exact ⟨t1 ++ t2, by rw [List.foldl_cons, e2, e1, List.append_assoc]⟩
end
end SM
end M3
section M4
set_option linter.all false
/-! M4: topological order, as the program finds it (plain mathematics) -/
namespace SM
section
variable {D : Type} [DecidableEq D]
/-- an order in which all that comes ahead of a thing comes ahead of it -/
structure TopoOk (ds : List D) (pr : D → List D) (out : List D) : Prop where
  nd : out.Nodup
  sub : ∀ d ∈ out, d ∈ ds
  ord : ∀ (i : Nat) (d : D), out[i]? = some d → ∀ x ∈ pr d, x ∈ out.take i
  all : ∀ d ∈ ds, (∀ x ∈ pr d, x ∈ out) → d ∈ out
/-- how many things ahead of d aren't found -/
def lft (pr : D → List D) (found : List D) (d : D) : Int := ((pr d).filter fun x => decide (x ∉ found)).length
structure Kahn (ds : List D) (pr : D → List D) (found wait : List D) : Prop where
  nd : found.Nodup
  sub : ∀ d ∈ found, d ∈ ds
  ord : ∀ (i : Nat) (d : D), found[i]? = some d → ∀ x ∈ pr d, x ∈ found.take i
  wnd : wait.Nodup
  wmem : ∀ d, d ∈ wait ↔ d ∈ ds ∧ d ∉ found ∧ lft pr found d = 0
theorem lft_zero {pr : D → List D} {found : List D} {d : D} : lft pr found d = 0 ↔ ∀ x ∈ pr d, x ∈ found := by
  unfold lft
  rw [Int.natCast_eq_zero, List.length_eq_zero_iff, List.filter_eq_nil_iff]
  exact ⟨fun h x hx => Classical.not_not.mp fun n => h x hx (decide_eq_true n), fun h x hx n => of_decide_eq_true n (h x hx)⟩
theorem lft_add {pr : D → List D} {found : List D} {d f : D} (hn : (pr d).Nodup) (hf : f ∉ found) : lft pr (found ++ [f]) d = if f ∈ pr d then lft pr found d - 1 else lft pr found d := by
  unfold lft
  generalize pr d = l at hn
  induction l with
  | nil => simp
  | cons x l ih =>
    have n := List.nodup_cons.mp hn
    have ih := ih n.2
    by_cases hx : x = f
    · subst hx
      have h1 : x ∉ l := n.1
      rw [if_neg h1] at ih
      rw [if_pos List.mem_cons_self, List.filter_cons_of_neg (by simp), List.filter_cons_of_pos (by simpa using hf), ih, List.length_cons]
      omega
    · have e1 : (f ∈ x :: l) ↔ f ∈ l := ⟨fun m => (List.mem_cons.mp m).resolve_left (Ne.symm hx), List.mem_cons_of_mem _⟩
      by_cases hm : x ∈ found
      · rw [List.filter_cons_of_neg (by simp [hm]), List.filter_cons_of_neg (by simp [hm]), ih]
        by_cases hl : f ∈ l
        · rw [if_pos hl, if_pos (e1.mpr hl)]
        · rw [if_neg hl, if_neg (fun m => hl (e1.mp m))]
      · rw [List.filter_cons_of_pos (by simp [hm, hx]), List.filter_cons_of_pos (by simp [hm]), List.length_cons, List.length_cons]
        by_cases hl : f ∈ l
        · rw [if_pos hl] at ih
          rw [if_pos (e1.mpr hl)]
          omega
        · rw [if_neg hl] at ih
          rw [if_neg (fun m => hl (e1.mp m))]
          omega
/-- one more is found -/
theorem Kahn.step {ds : List D} {pr pr' : D → List D} {found rest : List D} {f : D} (k : Kahn ds pr found (f :: rest)) (hpn : ∀ d, (pr d).Nodup) (hn' : (pr' f).Nodup) (h' : ∀ x, x ∈ pr' f ↔ x ∈ ds ∧ f ∈ pr x) :
    (fun d => if d ∈ pr' f then lft pr found d - 1 else lft pr found d) = (fun d => if d ∈ pr' f then lft pr (found ++ [f]) d else lft pr found d) ∧ (∀ d ∈ ds, (if d ∈ pr' f then lft pr found d - 1 else lft pr found d) = lft pr (found ++ [f]) d) ∧
    Kahn ds pr (found ++ [f]) (rest ++ (pr' f).filter fun d => decide (lft pr found d - 1 = 0)) := by
  have hf := (k.wmem f).mp List.mem_cons_self
  have wn := List.nodup_cons.mp k.wnd
  have key : ∀ d ∈ ds, (if d ∈ pr' f then lft pr found d - 1 else lft pr found d) = lft pr (found ++ [f]) d := fun d hd => by
    rw [lft_add (hpn d) hf.2.1]
    by_cases h : f ∈ pr d
    · rw [if_pos h, if_pos ((h' d).mpr ⟨hd, h⟩)]
    · rw [if_neg h, if_neg fun m => h ((h' d).mp m).2]
  refine ⟨funext fun d => ?_, key, ?_⟩
  · by_cases h : d ∈ pr' f
    · rw [if_pos h, if_pos h, ← key d ((h' d).mp h).1, if_pos h]
    · rw [if_neg h, if_neg h]
  have notf : ∀ d ∈ pr' f, d ∉ found ++ [f] := fun d hd m => by
    have hd2 := (h' d).mp hd
    rcases List.mem_append.mp m with h | h
    · obtain ⟨i, hi⟩ := List.mem_iff_getElem?.mp h
      exact hf.2.1 (List.mem_of_mem_take (k.ord i d hi f hd2.2))
    · rw [List.mem_singleton.mp h] at hd2
      exact hf.2.1 (lft_zero.mp hf.2.2 f hd2.2)
  refine ⟨List.nodup_append.mpr ⟨k.nd, by simp, fun a ha b hb e => hf.2.1 (by rw [List.mem_singleton.mp hb] at e; rw [← e]; exact ha)⟩, fun d hd => ?_, fun i d hi x hx => ?_, ?_, fun d => ?_⟩
  · rcases List.mem_append.mp hd with h | h
    · exact k.sub d h
    · rw [List.mem_singleton.mp h]; exact hf.1
  · by_cases hl : i < found.length
    · rw [List.getElem?_append_left hl] at hi
      rw [List.take_append_of_le_length (Nat.le_of_lt hl)]
      exact k.ord i d hi x hx
    · rw [List.getElem?_append_right (by omega)] at hi
      have hi0 : i - found.length = 0 := by
        have := (List.getElem?_eq_some_iff.mp hi).1
        simp at this; omega
      rw [hi0] at hi
      cases hi
      have : i = found.length := by omega
      rw [this, List.take_left]
      exact lft_zero.mp hf.2.2 x hx
  · refine List.nodup_append.mpr ⟨wn.2, hn'.filter _, fun a ha b hb e => ?_⟩
    subst e
    have h1 := (k.wmem a).mp (List.mem_cons_of_mem _ ha)
    have h2 := of_decide_eq_true (List.mem_filter.mp hb).2
    omega
  · rw [List.mem_append, List.mem_filter]
    constructor
    · rintro (h | ⟨h, h2⟩)
      · have h1 := (k.wmem d).mp (List.mem_cons_of_mem _ h)
        have hne : d ≠ f := fun e => wn.1 (by rw [← e]; exact h)
        refine ⟨h1.1, ?_, lft_zero.mpr fun x hx => List.mem_append_left _ (lft_zero.mp h1.2.2 x hx)⟩
        rw [List.mem_append, List.mem_singleton, not_or]
        exact ⟨h1.2.1, hne⟩
      · have hd := ((h' d).mp h).1
        refine ⟨hd, notf d h, ?_⟩
        rw [← key d hd, if_pos h]
        exact of_decide_eq_true h2
    · rintro ⟨hd, hn, hz⟩
      rw [List.mem_append, List.mem_singleton, not_or] at hn
      rw [← key d hd] at hz
      by_cases h : d ∈ pr' f
      · rw [if_pos h] at hz
        exact .inr ⟨h, decide_eq_true hz⟩
      · rw [if_neg h] at hz
        exact .inl ((List.mem_cons.mp ((k.wmem d).mpr ⟨hd, hn.1, hz⟩)).resolve_left hn.2)
theorem Kahn.perm {ds : List D} {pr : D → List D} {found w w' : List D} (k : Kahn ds pr found w) (p : w'.Perm w) : Kahn ds pr found w' := ⟨k.nd, k.sub, k.ord, p.nodup_iff.mpr k.wnd, fun d => (p.mem_iff).trans (k.wmem d)⟩
theorem Kahn.done {ds : List D} {pr : D → List D} {found : List D} (k : Kahn ds pr found []) : TopoOk ds pr found :=
  ⟨k.nd, k.sub, k.ord, fun d hd h => Classical.not_not.mp fun n => absurd ((k.wmem d).mpr ⟨hd, n, lft_zero.mpr h⟩) (by simp)⟩
/-- the inner loop -/
def dec1 (b : (D → Int) × List D) (x : D) : (D → Int) × List D := (fun d => if d = x then b.1 x - 1 else b.1 d, if b.1 x - 1 = 0 then b.2 ++ [x] else b.2)
theorem dec_all : ∀ (l : List D) (lf : D → Int) (w : List D), l.Nodup → l.foldl dec1 (lf, w) = (fun d => if d ∈ l then lf d - 1 else lf d, w ++ l.filter fun d => decide (lf d - 1 = 0))
  | [], lf, w, _ => by simp
  | x :: l, lf, w, h => by
    have n := List.nodup_cons.mp h
    have e : dec1 (lf, w) x = (fun d => if d = x then lf x - 1 else lf d, if lf x - 1 = 0 then w ++ [x] else w) := rfl
    rw [List.foldl_cons, e, dec_all l _ _ n.2]
    have hne : ∀ d ∈ l, d ≠ x := fun d hd z => n.1 (by rw [← z]; exact hd)
    refine Prod.ext (funext fun d => ?_) ?_
    · show (if d ∈ l then (if d = x then lf x - 1 else lf d) - 1 else if d = x then lf x - 1 else lf d) = if d ∈ x :: l then lf d - 1 else lf d
      by_cases hd : d ∈ l
      · rw [if_pos hd, if_neg (hne d hd), if_pos (List.mem_cons_of_mem _ hd)]
      · rw [if_neg hd]
        by_cases hx : d = x
        · rw [if_pos hx, if_pos (by rw [hx]; exact List.mem_cons_self), hx]
        · rw [if_neg hx, if_neg fun m => (List.mem_cons.mp m).elim hx hd]
    · show (if lf x - 1 = 0 then w ++ [x] else w) ++ l.filter _ = _
      have hfl : (l.filter fun d => decide ((if d = x then lf x - 1 else lf d) - 1 = 0)) = l.filter fun d => decide (lf d - 1 = 0) := List.filter_congr fun d hd => by rw [if_neg (hne d hd)]
      rw [hfl]
      show _ = w ++ (x :: l).filter fun d => decide (lf d - 1 = 0)
      by_cases hz : lf x - 1 = 0
      · rw [if_pos hz, List.filter_cons_of_pos (by simpa using hz)]; simp
      · rw [if_neg hz, List.filter_cons_of_neg (by simpa using hz)]
end
end SM
end M4
section M5
set_option linter.all false
/-! M5: edges as half spaces of the tree (plain mathematics) -/
namespace SM
section
variable {S : Type} [DecidableEq S]
/-- u lies beyond the edge e, seen from [] -/
def Bey (u : List S) (e : List S × S) : Prop := (e.1 ++ [e.2]) <+: u
theorem bey_iff {u : List S} {e : List S × S} : Bey u e ↔ ∃ a, u[e.1.length]? = some a ∧ e = (u.take e.1.length, a) := by
  unfold Bey
  constructor
  · rintro ⟨r, h⟩
    refine ⟨e.2, ?_, ?_⟩
    · rw [← h, List.append_assoc, List.getElem?_append_right (Nat.le_refl _), Nat.sub_self]; rfl
    · refine Prod.ext ?_ rfl
      rw [← h, List.append_assoc, List.take_left]
  · rintro ⟨a, h1, h2⟩
    refine ⟨u.drop (e.1.length + 1), ?_⟩
    have e1 : e.1 = u.take e.1.length := congrArg Prod.fst h2
    have e2 : e.2 = a := congrArg Prod.snd h2
    generalize e.1.length = m at *
    have hm : m < u.length := (List.getElem?_eq_some_iff.mp h1).1
    have t : u.take m ++ [u[m]] = u.take (m + 1) := by rw [List.take_succ, List.getElem?_eq_getElem hm]; rfl
    rw [e1, e2, ← (List.getElem?_eq_some_iff.mp h1).2, t, List.take_append_drop]
theorem bey_len {u : List S} {e : List S × S} (h : Bey u e) : e.1.length < u.length := by
  have := h.length_le
  rw [List.length_append] at this
  exact this
/-- words with the same edges are the same -/
theorem bey_ext {u v : List S} (h : ∀ e, Bey u e ↔ Bey v e) : u = v := by
  have key : ∀ u v : List S, (∀ e, Bey u e → Bey v e) → u <+: v := fun u v h => by
    cases e : u.getLast? with
    | none => rw [List.getLast?_eq_none_iff.mp e]; exact List.nil_prefix
    | some a =>
      obtain ⟨r, rfl⟩ := List.getLast?_eq_some_iff.mp e
      exact h (r, a) (List.prefix_rfl)
  have h1 := key u v fun e => (h e).mp
  have h2 := key v u fun e => (h e).mpr
  exact h1.eq_of_length (Nat.le_antisymm h1.length_le h2.length_le)
theorem bey_snoc (v : List S) (s : S) (e : List S × S) : Bey (v ++ [s]) e ↔ Bey v e ∨ e = (v, s) := by
  unfold Bey
  constructor
  · rintro ⟨r, h⟩
    cases e1 : r.getLast? with
    | none =>
      rw [List.getLast?_eq_none_iff.mp e1, List.append_nil] at h
      have := List.append_inj' h rfl
      exact .inr (Prod.ext this.1 (List.singleton_inj.mp this.2))
    | some a =>
      obtain ⟨r', rfl⟩ := List.getLast?_eq_some_iff.mp e1
      rw [← List.append_assoc] at h
      exact .inl ⟨r', (List.append_inj' h rfl).1⟩
  · rintro (⟨r, h⟩ | h)
    · exact ⟨r ++ [s], by rw [← List.append_assoc, h]⟩
    · rw [h]; exact List.prefix_rfl
theorem not_bey_self (v : List S) (s : S) : ¬ Bey v (v, s) := fun h => Nat.lt_irrefl _ (bey_len h)
/-- the edge that is crossed -/
def cr (v : List S) (s : S) : List S × S := if v.getLast? = some s then (v.dropLast, s) else (v, s)
theorem cr_snd (v : List S) (s : S) : (cr v s).2 = s := by unfold cr; split <;> rfl
theorem bey_push (v : List S) (s : S) (e : List S × S) : (Bey (push v s) e ↔ Bey v e) ↔ e ≠ cr v s := by
  unfold push cr
  split
  · rename_i h
    obtain ⟨w, rfl⟩ := List.getLast?_eq_some_iff.mp h
    rw [List.dropLast_concat, bey_snoc]
    constructor
    · rintro k rfl
      exact not_bey_self w s (k.mpr (.inr rfl))
    · intro k
      exact ⟨.inl, fun q => q.resolve_right k⟩
  · rw [bey_snoc]
    constructor
    · rintro k rfl
      exact not_bey_self v s (k.mp (.inr rfl))
    · intro k
      exact ⟨fun q => q.resolve_right k, .inl⟩
theorem bey_push_ne {v : List S} {s : S} {e : List S × S} (h : e.2 ≠ s) : Bey (push v s) e ↔ Bey v e :=
  (bey_push v s e).mpr fun q => h (by rw [q, cr_snd])
theorem push_ne (v : List S) (s : S) : push v s ≠ v := fun h => by
  have := (bey_push v s (cr v s)).mp (by rw [h])
  exact this rfl

/-! ### the way -/
theorem clen_take : ∀ u v : List S, u.take (clen u v) = v.take (clen u v)
  | [], v => by simp [clen]
  | a :: u, [] => by simp [clen]
  | a :: u, b :: v => by
    rw [clen]
    split
    · rename_i h
      subst h
      rw [List.take_succ_cons, List.take_succ_cons, clen_take u v]
    · rfl
theorem clen_comm : ∀ u v : List S, clen u v = clen v u
  | [], [] => rfl
  | [], _ :: _ => rfl
  | _ :: _, [] => rfl
  | a :: u, b :: v => by
    rw [clen, clen]
    by_cases h : a = b
    · rw [if_pos h, if_pos h.symm, clen_comm u v]
    · rw [if_neg h, if_neg fun z => h z.symm]
theorem bey_clen {u v : List S} {e : List S × S} (hu : Bey u e) : Bey v e ↔ e.1.length < clen u v := by
  obtain ⟨a, h1, h2⟩ := bey_iff.mp hu
  constructor
  · intro hv
    obtain ⟨b, k1, k2⟩ := bey_iff.mp hv
    refine Nat.lt_of_not_le fun hle => ?_
    have hab : a = b := (congrArg Prod.snd h2).symm.trans (congrArg Prod.snd k2)
    have ht : u.take e.1.length = v.take e.1.length := (congrArg Prod.fst h2).symm.trans (congrArg Prod.fst k2)
    have hall : ∀ i, i ≤ e.1.length → u[i]? = v[i]? := fun i hi => by
      rcases Nat.lt_or_eq_of_le hi with hi | hi
      · have := congrArg (fun l => l[i]?) ht
        simpa [List.getElem?_take, hi] using this
      · rw [hi, h1, k1, hab]
    have hlu : clen u v < u.length := Nat.lt_of_le_of_lt hle (List.getElem?_eq_some_iff.mp h1).1
    have hlv : clen u v < v.length := Nat.lt_of_le_of_lt hle (List.getElem?_eq_some_iff.mp k1).1
    have := hall _ hle
    exact clen_end u v _ _ (List.getElem?_eq_getElem hlu) (List.getElem?_eq_getElem hlv) (by
      rw [List.getElem?_eq_getElem hlu, List.getElem?_eq_getElem hlv] at this
      exact Option.some.inj this)
  · intro hlt
    obtain ⟨b, k1, k2⟩ := clen_lt u v _ hlt
    refine bey_iff.mpr ⟨a, ?_, ?_⟩
    · rw [k2, ← k1, h1]
    · have := congrArg (List.take e.1.length) (clen_take u v)
      rw [List.take_take, List.take_take, Nat.min_eq_left (Nat.le_of_lt hlt)] at this
      rw [← this]
      exact h2
theorem mem_edg {u : List S} {m : Nat} {e : List S × S} : e ∈ edg (u.take m) (u.drop m) ↔ Bey u e ∧ m ≤ e.1.length := by
  constructor
  · intro h
    obtain ⟨i, hi⟩ := List.mem_iff_getElem?.mp h
    rw [edg_at] at hi
    cases q : u[m + i]? with
    | none => rw [q] at hi; cases hi
    | some a =>
      rw [q] at hi
      cases hi
      have hl := (List.getElem?_eq_some_iff.mp q).1
      have e1 : (u.take (m + i)).length = m + i := by rw [List.length_take]; omega
      refine ⟨bey_iff.mpr ⟨a, ?_, ?_⟩, ?_⟩
      · show u[(u.take (m + i)).length]? = some a
        rw [e1]; exact q
      · show (u.take (m + i), a) = (u.take (u.take (m + i)).length, a)
        rw [e1]
      · show m ≤ (u.take (m + i)).length
        rw [e1]; omega
  · rintro ⟨h, hm⟩
    obtain ⟨a, h1, h2⟩ := bey_iff.mp h
    refine List.mem_iff_getElem?.mpr ⟨e.1.length - m, ?_⟩
    rw [edg_at, Nat.add_sub_cancel' hm, h1, Option.map_some, ← h2]
theorem mem_way {u v : List S} {e : List S × S} : e ∈ way u v ↔ ¬ (Bey u e ↔ Bey v e) := by
  unfold way
  rw [List.mem_append, List.mem_reverse, mem_edg, mem_edg]
  by_cases hu : Bey u e
  · by_cases hv : Bey v e
    · have h1 := (bey_clen hu).mp hv
      have : ¬ clen u v ≤ e.1.length := by omega
      simp [hu, hv, this]
    · have h1 : ¬ e.1.length < clen u v := fun q => hv ((bey_clen hu).mpr q)
      have : clen u v ≤ e.1.length := by omega
      simp [hu, hv, this]
  · by_cases hv : Bey v e
    · have h1 : ¬ e.1.length < clen v u := fun q => hu ((bey_clen hv).mpr q)
      rw [clen_comm] at h1
      have : clen u v ≤ e.1.length := by omega
      simp [hu, hv, this]
    · simp [hu, hv]
open Classical in
/-- how far along: up edges first, down edges then -/
noncomputable def rk (v : List S) (e : List S × S) : Int := if Bey v e then ((e.1.length + 1 : Nat) : Int) else - ((e.1.length + 1 : Nat) : Int)
theorem edg_sorted : ∀ (p x : List S), (edg p x).Pairwise (fun a b => a.1.length < b.1.length) ∧ ∀ a ∈ edg p x, p.length ≤ a.1.length
  | _, [] => ⟨List.Pairwise.nil, fun a h => by cases h⟩
  | p, a :: x => by
    obtain ⟨h1, h2⟩ := edg_sorted (p ++ [a]) x
    rw [List.length_append] at h2
    refine ⟨List.pairwise_cons.mpr ⟨fun b hb => h2 b hb, h1⟩, fun b hb => ?_⟩
    rcases List.mem_cons.mp hb with e | e
    · rw [e]; exact Nat.le_refl _
    · exact Nat.le_trans (Nat.le_add_right _ _) (h2 b e)
theorem way_sorted (u v : List S) : (way u v).Pairwise fun a b => rk v a < rk v b := by
  have hu : ∀ a ∈ (edg (u.take (clen u v)) (u.drop (clen u v))), rk v a = - ((a.1.length + 1 : Nat) : Int) := fun a ha => by
    obtain ⟨h1, h2⟩ := mem_edg.mp ha
    unfold rk
    rw [if_neg fun q => by have := (bey_clen h1).mp q; omega]
  have hv : ∀ a ∈ (edg (v.take (clen u v)) (v.drop (clen u v))), rk v a = ((a.1.length + 1 : Nat) : Int) := fun a ha => by
    obtain ⟨h1, h2⟩ := mem_edg.mp ha
    unfold rk
    rw [if_pos h1]
  unfold way
  refine List.pairwise_append.mpr ⟨List.pairwise_reverse.mpr ?_, ?_, fun a ha b hb => ?_⟩
  · refine ((edg_sorted _ _).1).imp_of_mem fun {a b} ha hb h => ?_
    rw [hu a ha, hu b hb]; omega
  · refine ((edg_sorted _ _).1).imp_of_mem fun {a b} ha hb h => ?_
    rw [hv a ha, hv b hb]; omega
  · rw [hu a (List.mem_reverse.mp ha), hv b hb]; omega
/-- the first edge of a way begins where the way begins -/
theorem way_first {u v : List S} {e : List S × S} {r : List (List S × S)} (h : way u v = e :: r) : (u = e.1 ∧ Bey v e) ∨ (u = e.1 ++ [e.2] ∧ ¬ Bey v e) := by
  have c1 := clen_le1 u v
  have c2 := clen_le2 u v
  cases hl : u.drop (clen u v) with
  | nil =>
    have hu : u.length ≤ clen u v := by
      have := congrArg List.length hl
      rw [List.length_drop, List.length_nil] at this
      omega
    have hu2 : u = v.take (clen u v) := by
      rw [← clen_take, List.take_of_length_le hu]
    have hw : way u v = edg (v.take (clen u v)) (v.drop (clen u v)) := by
      unfold way
      rw [hl]; rfl
    have h0 : (edg (v.take (clen u v)) (v.drop (clen u v)))[0]? = some e := by rw [← hw, h]; rfl
    rw [edg_at] at h0
    rw [Nat.add_zero] at h0
    cases q : v[clen u v]? with
    | none => rw [q] at h0; cases h0
    | some a =>
      rw [q] at h0
      have h0 := Option.some.inj h0
      left
      refine ⟨by rw [← h0]; exact hu2, ?_⟩
      have hm : e ∈ edg (v.take (clen u v)) (v.drop (clen u v)) := by rw [← hw, h]; exact List.mem_cons_self
      exact (mem_edg.mp hm).1
  | cons x xs =>
    have hlt : clen u v < u.length := by
      have := congrArg List.length hl
      rw [List.length_drop, List.length_cons] at this
      omega
    have hlast : (edg (u.take (clen u v)) (u.drop (clen u v))).getLast? = some e := by
      have h1 : (way u v).head? = some e := by rw [h]; rfl
      unfold way at h1
      rw [List.head?_append, List.head?_reverse] at h1
      cases q : (edg (u.take (clen u v)) (u.drop (clen u v))).getLast? with
      | none =>
        have := congrArg List.length (List.getLast?_eq_none_iff.mp q)
        rw [edg_len, hl] at this
        simp at this
      | some y => rw [q] at h1; exact h1
    have hmem := List.mem_of_getLast? hlast
    obtain ⟨k1, k2⟩ := mem_edg.mp hmem
    right
    rw [List.getLast?_eq_getElem?, edg_len, edg_at, List.length_drop] at hlast
    have e1 : clen u v + (u.length - clen u v - 1) = u.length - 1 := by omega
    rw [e1, List.getElem?_eq_getElem (by omega)] at hlast
    have hlast := Option.some.inj hlast
    refine ⟨?_, fun q => by have := (bey_clen k1).mp q; omega⟩
    rw [← hlast]
    show u = u.take (u.length - 1) ++ [u[u.length - 1]]
    have t : u.take (u.length - 1) ++ [u[u.length - 1]] = u.take (u.length - 1 + 1) := by rw [List.take_succ, List.getElem?_eq_getElem (by omega)]; rfl
    rw [t, Nat.sub_add_cancel (by omega), List.take_length]
/-- letters of an edge of a way -/
theorem way_red {u v : List S} {e : List S × S} (hu : IsRed u) (hv : IsRed v) (h : e ∈ way u v) : IsRed (e.1 ++ [e.2]) := by
  have h2 := mem_way.mp h
  by_cases hb : Bey u e
  · obtain ⟨r, hr⟩ := hb
    exact isRed_pre (v := r) (by rw [hr]; exact hu)
  · by_cases hc : Bey v e
    · obtain ⟨r, hr⟩ := hc
      exact isRed_pre (v := r) (by rw [hr]; exact hv)
    · exact absurd ⟨fun q => absurd q hb, fun q => absurd q hc⟩ h2
theorem isRed_last : ∀ {w : List S} {s : S}, IsRed (w ++ [s]) → w.getLast? ≠ some s
  | [], _, _ => by simp
  | [a], s, h => fun e => h.1 (by simpa using e)
  | a :: b :: r, s, h => fun e => isRed_last (w := b :: r) (s := s) h.2 (by rw [← List.getLast?_cons_cons (a := a)]; exact e)
theorem cr_of {e : List S × S} (h : IsRed (e.1 ++ [e.2])) : cr e.1 e.2 = e ∧ cr (e.1 ++ [e.2]) e.2 = e := by
  unfold cr
  rw [if_neg (isRed_last h), if_pos (by simp), List.dropLast_concat]
  exact ⟨rfl, rfl⟩
end
end SM
end M5
section M6
set_option linter.all false
/-! M6: leases; an edit turns the vertices of its lease; a script by the differences in order (plain mathematics) -/
namespace SM
section
variable {S : Type} [DecidableEq S]
/-- the begin of the lease of s at stretch k -/
def lbeg (rs : List S) (s : S) : Nat → Nat
  | 0 => 0
  | k + 1 => if rs[k]? = some s then k + 1 else lbeg rs s k
theorem lbeg_le (rs : List S) (s : S) : ∀ k, lbeg rs s k ≤ k
  | 0 => Nat.le_refl _
  | k + 1 => by
    have := lbeg_le rs s k
    unfold lbeg; split <;> omega
theorem lbeg_idem (rs : List S) (s : S) : ∀ k, lbeg rs s (lbeg rs s k) = lbeg rs s k
  | 0 => rfl
  | k + 1 => by
    by_cases h : rs[k]? = some s
    · have e : lbeg rs s (k + 1) = k + 1 := by unfold lbeg; rw [if_pos h]
      rw [e, e]
    · have e : lbeg rs s (k + 1) = lbeg rs s k := by rw [lbeg, if_neg h]
      rw [e, lbeg_idem rs s k]
theorem lbeg_ge {rs : List S} {s : S} {i : Nat} (h : rs[i]? = some s) : ∀ k, i < k → i + 1 ≤ lbeg rs s k
  | 0, hk => absurd hk (Nat.not_lt_zero _)
  | k + 1, hk => by
    unfold lbeg
    split
    · omega
    · rename_i h2
      have : i ≠ k := fun e => h2 (by rw [← e]; exact h)
      exact lbeg_ge h k (by omega)
/-- e is the end of the lease l -/
structure Ens (rs : List S) (l : S × Nat) (e : Nat) : Prop where
  le : e ≤ rs.length
  ge : l.2 ≤ e
  no : ∀ i, l.2 ≤ i → i < e → rs[i]? ≠ some l.1
  at_ : e < rs.length → rs[e]? = some l.1
theorem cover {rs : List S} {l : S × Nat} {e k : Nat} (E : Ens rs l e) (hb : lbeg rs l.1 l.2 = l.2) (hk : k ≤ rs.length) : lbeg rs l.1 k = l.2 ↔ l.2 ≤ k ∧ k ≤ e := by
  constructor
  · intro h
    refine ⟨by rw [← h]; exact lbeg_le _ _ _, Nat.le_of_not_lt fun hlt => ?_⟩
    have := lbeg_ge (E.at_ (by omega)) k hlt
    have := E.ge
    omega
  · rintro ⟨h1, h2⟩
    induction k with
    | zero => rw [show l.2 = 0 by omega]; rfl
    | succ k ih =>
      rcases Nat.lt_or_eq_of_le h1 with h | h
      · rw [lbeg, if_neg (E.no k (by omega) (by omega))]
        exact ih (by omega) (by omega) (by omega)
      · rw [← h]; exact hb
/-- within a lease of s no edge of s is crossed -/
theorem bey_lease (rs : List S) (p : List Nat) (e : List S × S) : ∀ k, Bey (vx rs p k) e ↔ Bey (vx rs p (lbeg rs e.2 k)) e
  | 0 => Iff.rfl
  | k + 1 => by
    rw [lbeg]
    split
    · exact Iff.rfl
    · rename_i h
      rw [← bey_lease rs p e k]
      cases ht : rs[k]? with
      | none =>
        have e1 : vx rs p (k + 1) = vx rs p k := by rw [vx, ht]
        rw [e1]
      | some t =>
        rw [vx_step ht]
        split
        · exact bey_push_ne fun q => h (by rw [ht, q])
        · exact Iff.rfl
theorem push_push {u : List S} (s : S) (h : IsRed u) : push (push u s) s = u := by
  unfold push
  split
  · rename_i hl
    obtain ⟨w, rfl⟩ := List.getLast?_eq_some_iff.mp hl
    rw [List.dropLast_concat, if_neg (isRed_last h)]
  · rw [if_pos (by simp), List.dropLast_concat]
/-- the plan behind an edit -/
def Edited (n : Nat) (b e : Nat) (c c' : List Nat) : Prop := ∀ i, i ∈ c' ↔ ¬ (i ∈ c ↔ (i + 1 = b ∨ (i = e ∧ e < n)))
theorem vx_edit {rs : List S} {l : S × Nat} {e : Nat} {c c' : List Nat} (E : Ens rs l e) (h0 : l.2 ≠ 0) (hs : rs[l.2 - 1]? = some l.1) (hc : ∀ j, l.2 ≤ j → j < e → j ∉ c) (hc' : Edited rs.length l.2 e c c') :
    ∀ k, k ≤ rs.length → vx rs c' k = if l.2 ≤ k ∧ k ≤ e then push (vx rs c k) l.1 else vx rs c k
  | 0, _ => by rw [if_neg (by omega)]; rfl
  | k + 1, hk => by
    have ih := vx_edit E h0 hs hc hc' k (by omega)
    have hge := E.ge
    have hlt : k < rs.length := hk
    have hm := hc' k
    have ht : rs[k]? = some rs[k] := List.getElem?_eq_getElem hlt
    rw [vx_step ht, vx_step ht]
    by_cases h1 : k + 1 < l.2
    · have hm : k ∈ c' ↔ k ∈ c := by
        rw [hm]
        have : ¬ (k + 1 = l.2 ∨ (k = e ∧ e < rs.length)) := by omega
        simp [this]
      rw [if_neg (by omega)] at ih
      rw [if_neg (show ¬ (l.2 ≤ k + 1 ∧ k + 1 ≤ e) by omega), ih]
      by_cases hkc : k ∈ c
      · rw [if_pos hkc, if_pos (hm.mpr hkc)]
      · rw [if_neg hkc, if_neg fun q => hkc (hm.mp q)]
    by_cases h2 : k + 1 = l.2
    · have hts : rs[k] = l.1 := by
        have : l.2 - 1 = k := by omega
        rw [this, ht] at hs
        exact Option.some.inj hs
      have hm : k ∈ c' ↔ k ∉ c := by
        rw [hm]
        have : (k + 1 = l.2 ∨ (k = e ∧ e < rs.length)) := .inl h2
        simp [this]
      rw [if_neg (by omega)] at ih
      rw [if_pos (show l.2 ≤ k + 1 ∧ k + 1 ≤ e by omega), ih, hts]
      by_cases hkc : k ∈ c
      · rw [if_pos hkc, if_neg fun q => hm.mp q hkc, push_push _ (vx_isRed rs c k)]
      · rw [if_neg hkc, if_pos (hm.mpr hkc)]
    by_cases h3 : k < e
    · have hkc := hc k (by omega) h3
      have hkc' : k ∉ c' := fun q => by
        have := hm.mp q
        have h4 : ¬ (k + 1 = l.2 ∨ (k = e ∧ e < rs.length)) := by omega
        simp [h4, hkc] at this
      rw [if_neg hkc, if_neg hkc', if_pos (show l.2 ≤ k + 1 ∧ k + 1 ≤ e by omega), ih, if_pos (by omega)]
    by_cases h4 : k = e
    · have hts : rs[k] = l.1 := by
        have := E.at_ (by omega)
        rw [← h4, ht] at this
        exact Option.some.inj this
      have hm : k ∈ c' ↔ k ∉ c := by
        rw [hm]
        have : (k + 1 = l.2 ∨ (k = e ∧ e < rs.length)) := .inr ⟨h4, by omega⟩
        simp [this]
      rw [if_pos (by omega)] at ih
      rw [if_neg (show ¬ (l.2 ≤ k + 1 ∧ k + 1 ≤ e) by omega), ih, hts]
      by_cases hkc : k ∈ c
      · rw [if_pos hkc, if_neg fun q => hm.mp q hkc]
      · rw [if_neg hkc, if_pos (hm.mpr hkc), push_push _ (vx_isRed rs c k)]
    · have hm : k ∈ c' ↔ k ∈ c := by
        rw [hm]
        have : ¬ (k + 1 = l.2 ∨ (k = e ∧ e < rs.length)) := by omega
        simp [this]
      rw [if_neg (by omega)] at ih
      rw [if_neg (show ¬ (l.2 ≤ k + 1 ∧ k + 1 ≤ e) by omega), ih]
      by_cases hkc : k ∈ c
      · rw [if_pos hkc, if_pos (hm.mpr hkc)]
      · rw [if_neg hkc, if_neg fun q => hkc (hm.mp q)]

/-! ### no script changes how far pinned leases are apart -/
def Apart0 (rs : List S) (p q : List Nat) (l : S × Nat) : Prop := ∀ e ∈ way (vx rs p l.2) (vx rs q l.2), e.2 ≠ l.1
theorem apn_zero {rs : List S} {p q : List Nat} {l : S × Nat} : apn rs p q l = 0 ↔ Apart0 rs p q l := by
  unfold apn eds Apart0
  rw [List.length_eq_zero_iff, List.filter_eq_nil_iff]
  exact ⟨fun h e he q => h e he (decide_eq_true q), fun h e he q => h e he (of_decide_eq_true q)⟩
theorem apart_self (rs : List S) (p : List Nat) (l : S × Nat) : Apart0 rs p p l := fun e he => absurd Iff.rfl (mem_way.mp he)
theorem apart_edit {rs : List S} {l l' : S × Nat} {e : Nat} {p c c' : List Nat} (E : Ens rs l e) (h0 : l.2 ≠ 0) (hb : lbeg rs l.1 l.2 = l.2) (hs : rs[l.2 - 1]? = some l.1) (hc : ∀ j, l.2 ≤ j → j < e → j ∉ c) (hc' : Edited rs.length l.2 e c c')
    (hb' : lbeg rs l'.1 l'.2 = l'.2) (hl' : l'.2 ≤ rs.length) (hne : l' ≠ l) (h : Apart0 rs p c l') : Apart0 rs p c' l' := by
  intro x hx hxs
  rw [vx_edit E h0 hs hc hc' _ hl'] at hx
  split at hx
  · rename_i hk
    by_cases hss : l'.1 = l.1
    · have := (cover E hb hl').mpr hk
      rw [← hss, hb'] at this
      exact hne (Prod.ext hss this)
    · have h1 := mem_way.mp hx
      rw [bey_push_ne (fun q => hss (by rw [← hxs, q]))] at h1
      exact h x (mem_way.mpr h1) hxs
  · exact h x hx hxs

/-! ### differences -/
abbrev Df (S : Type) := (S × Nat) × (List S × S)
def IsD (rs : List S) (p q : List Nat) (d : Df S) : Prop := d.2.2 = d.1.1 ∧ lbeg rs d.1.1 d.1.2 = d.1.2 ∧ d.1.2 ≤ rs.length ∧ d.2 ∈ way (vx rs p d.1.2) (vx rs q d.1.2)
abbrev ent (rs : List S) (k : Nat) (e : List S × S) : Df S := ((e.2, lbeg rs e.2 k), e)
abbrev row (rs : List S) (p q : List Nat) (k : Nat) : List (Df S) := (way (vx rs p k) (vx rs q k)).map (ent rs k)
def AdjR (rs : List S) (p q : List Nat) (x y : Df S) : Prop := ∃ k, k ≤ rs.length ∧ ∃ i, (row rs p q k)[i]? = some x ∧ (row rs p q k)[i + 1]? = some y
theorem way_lease {rs : List S} {p q : List Nat} {e : List S × S} {k : Nat} : e ∈ way (vx rs p k) (vx rs q k) ↔ e ∈ way (vx rs p (lbeg rs e.2 k)) (vx rs q (lbeg rs e.2 k)) := by
  rw [mem_way, mem_way, bey_lease rs p e k, bey_lease rs q e k]
theorem ent_isD {rs : List S} {p q : List Nat} {e : List S × S} {k : Nat} (hk : k ≤ rs.length) (h : e ∈ way (vx rs p k) (vx rs q k)) : IsD rs p q (ent rs k e) :=
  ⟨rfl, lbeg_idem _ _ _, Nat.le_trans (lbeg_le _ _ _) hk, way_lease.mp h⟩
theorem isD_ent {rs : List S} {p q : List Nat} {d : Df S} {k : Nat} (h : IsD rs p q d) (hk : lbeg rs d.1.1 k = d.1.2) : d.2 ∈ way (vx rs p k) (vx rs q k) ∧ ent rs k d.2 = d := by
  obtain ⟨h1, h2, h3, h4⟩ := h
  refine ⟨?_, ?_⟩
  · rw [way_lease, h1, hk]; exact h4
  · exact Prod.ext (Prod.ext h1 (by show lbeg rs d.2.2 k = _; rw [h1, hk])) rfl
theorem isD_of_ent {rs : List S} {p q : List Nat} {e : List S × S} {k : Nat} (h : IsD rs p q (ent rs k e)) : e ∈ way (vx rs p k) (vx rs q k) := (isD_ent h rfl).1
/-- how far along, for a difference -/
noncomputable def rkD (rs : List S) (q : List Nat) (d : Df S) : Int := rk (vx rs q d.1.2) d.2
theorem rk_ent (rs : List S) (q : List Nat) (k : Nat) (e : List S × S) : rkD rs q (ent rs k e) = rk (vx rs q k) e := by
  unfold rkD rk
  have := bey_lease rs q e k
  by_cases h : Bey (vx rs q k) e
  · rw [if_pos h, if_pos (this.mp h)]
  · rw [if_neg h, if_neg fun z => h (this.mpr z)]
theorem adj_rk {rs : List S} {p q : List Nat} {x y : Df S} (h : AdjR rs p q x y) : IsD rs p q x ∧ IsD rs p q y ∧ rkD rs q x < rkD rs q y := by
  obtain ⟨k, hk, i, h1, h2⟩ := h
  rw [List.getElem?_map] at h1 h2
  obtain ⟨a, ha, rfl⟩ := Option.map_eq_some_iff.mp h1
  obtain ⟨b, hb, rfl⟩ := Option.map_eq_some_iff.mp h2
  refine ⟨ent_isD hk (List.mem_of_getElem? ha), ent_isD hk (List.mem_of_getElem? hb), ?_⟩
  rw [rk_ent, rk_ent]
  obtain ⟨h3, h4⟩ := List.getElem?_eq_some_iff.mp ha
  obtain ⟨h5, h6⟩ := List.getElem?_eq_some_iff.mp hb
  have := List.pairwise_iff_getElem.mp (way_sorted (vx rs p k) (vx rs q k)) i (i + 1) h3 h5 (Nat.lt_succ_self _)
  rw [h4, h6] at this
  exact this
theorem rk_bound {rs : List S} {p q : List Nat} {d : Df S} (h : IsD rs p q d) : - (rs.length : Int) ≤ rkD rs q d := by
  obtain ⟨_, _, h3, h4⟩ := h
  have hl : d.2.1.length < rs.length := by
    have h5 := mem_way.mp h4
    by_cases hb : Bey (vx rs p d.1.2) d.2
    · have := bey_len hb
      have := vx_len rs p d.1.2
      omega
    · by_cases hc : Bey (vx rs q d.1.2) d.2
      · have := bey_len hc
        have := vx_len rs q d.1.2
        omega
      · exact absurd ⟨fun z => absurd z hb, fun z => absurd z hc⟩ h5
  unfold rkD rk
  split <;> omega
/-- an order tells all of them -/
theorem topo_all {rs : List S} {p q : List Nat} {ds out : List (Df S)} {pr : Df S → List (Df S)} (t : TopoOk ds pr out) (hds : ∀ d ∈ ds, IsD rs p q d) (hpr : ∀ d ∈ ds, ∀ x ∈ pr d, x ∈ ds ∧ rkD rs q x < rkD rs q d) : ∀ d ∈ ds, d ∈ out := by
  have key : ∀ (m : Nat) (d : Df S), d ∈ ds → (rkD rs q d + rs.length).toNat = m → d ∈ out := by
    intro m
    induction m using Nat.strongRecOn with
    | _ m ih =>
      intro d hd hm
      refine t.all d hd fun x hx => ?_
      obtain ⟨h1, h2⟩ := hpr d hd x hx
      have b1 := rk_bound (hds x h1)
      exact ih _ (by omega) x h1 rfl
  exact fun d hd => key _ d hd rfl

/-! ### a script -/
/-- where a plan is, on the way: the differences T are done -/
def Done (rs : List S) (p : List Nat) (c : List Nat) (T : List (Df S)) : Prop := ∀ k, k ≤ rs.length → ∀ e, (Bey (vx rs c k) e ↔ Bey (vx rs p k) e) ↔ ent rs k e ∉ T
theorem stands {rs : List S} {p q c : List Nat} {T : List (Df S)} {d : Df S} {k : Nat} (hk : k ≤ rs.length) (D : Done rs p c T) (hT : ∀ d ∈ T, IsD rs p q d) (hd : IsD rs p q d) (hdT : d ∉ T) (hcov : lbeg rs d.1.1 k = d.1.2)
    (hcl : ∀ y ∈ d :: T, ∀ x, AdjR rs p q x y → x ∈ T) : (vx rs c k = d.2.1 ∧ Bey (vx rs q k) d.2) ∨ (vx rs c k = d.2.1 ++ [d.2.2] ∧ ¬ Bey (vx rs q k) d.2) := by
  obtain ⟨hw, he⟩ := isD_ent hd hcov
  have hbc : Bey (vx rs c k) d.2 ↔ Bey (vx rs p k) d.2 := (D k hk d.2).mpr (by rw [he]; exact hdT)
  have hin : d.2 ∈ way (vx rs c k) (vx rs q k) := mem_way.mpr (by rw [hbc]; exact mem_way.mp hw)
  cases hway : way (vx rs c k) (vx rs q k) with
  | nil => rw [hway] at hin; cases hin
  | cons f r =>
    by_cases hf : f = d.2
    · subst hf
      exact way_first hway
    · exfalso
      have hfm : f ∈ way (vx rs c k) (vx rs q k) := by rw [hway]; exact List.mem_cons_self
      have hfd : ¬ (Bey (vx rs c k) f ↔ Bey (vx rs q k) f) := mem_way.mp hfm
      have hfw : f ∈ way (vx rs p k) (vx rs q k) := by
        by_cases hfT : ent rs k f ∈ T
        · exact isD_of_ent (hT _ hfT)
        · exact mem_way.mpr (by rw [← (D k hk f).mpr hfT]; exact hfd)
      have hlt : rk (vx rs q k) f < rk (vx rs q k) d.2 := by
        have := way_sorted (vx rs c k) (vx rs q k)
        rw [hway] at this hin
        exact (List.pairwise_cons.mp this).1 _ ((List.mem_cons.mp hin).resolve_left (Ne.symm hf))
      -- all that come ahead of d in this row are done
      obtain ⟨m, hm⟩ := List.mem_iff_getElem?.mp hw
      obtain ⟨j, hj⟩ := List.mem_iff_getElem?.mp hfw
      have sorted := List.pairwise_iff_getElem.mp (way_sorted (vx rs p k) (vx rs q k))
      obtain ⟨m1, m2⟩ := List.getElem?_eq_some_iff.mp hm
      obtain ⟨j1, j2⟩ := List.getElem?_eq_some_iff.mp hj
      have hjm : j < m := by
        refine Nat.lt_of_not_le fun hle => ?_
        rcases Nat.lt_or_eq_of_le hle with h | h
        · have := sorted m j m1 j1 h
          rw [m2, j2] at this
          omega
        · subst h
          exact hf (j2.symm.trans m2)
      have all : ∀ t, t < m → ∃ x, (row rs p q k)[m - 1 - t]? = some x ∧ x ∈ T := by
        intro t
        induction t with
        | zero =>
          intro ht
          have hlt1 : m - 1 < (way (vx rs p k) (vx rs q k)).length := by omega
          refine ⟨ent rs k (way (vx rs p k) (vx rs q k))[m - 1], by rw [Nat.sub_zero, List.getElem?_map, List.getElem?_eq_getElem hlt1]; rfl, ?_⟩
          refine hcl d List.mem_cons_self _ ⟨k, hk, m - 1, by rw [List.getElem?_map, List.getElem?_eq_getElem hlt1]; rfl, ?_⟩
          rw [Nat.sub_add_cancel (by omega), List.getElem?_map, hm]
          exact congrArg some he
        | succ t ih =>
          intro ht
          obtain ⟨x, hx, hxT⟩ := ih (by omega)
          have hlt1 : m - 1 - (t + 1) < (way (vx rs p k) (vx rs q k)).length := by omega
          refine ⟨ent rs k (way (vx rs p k) (vx rs q k))[m - 1 - (t + 1)], by rw [List.getElem?_map, List.getElem?_eq_getElem hlt1]; rfl, ?_⟩
          refine hcl x (List.mem_cons_of_mem _ hxT) _ ⟨k, hk, m - 1 - (t + 1), by rw [List.getElem?_map, List.getElem?_eq_getElem hlt1]; rfl, ?_⟩
          rw [show m - 1 - (t + 1) + 1 = m - 1 - t by omega]
          exact hx
      obtain ⟨x, hx, hxT⟩ := all (m - 1 - j) (by omega)
      rw [show m - 1 - (m - 1 - j) = j by omega, List.getElem?_map, hj] at hx
      cases hx
      have h1 : ¬ (Bey (vx rs c k) f ↔ Bey (vx rs p k) f) := fun z => (D k hk f).mp z hxT
      have h2 : ¬ (Bey (vx rs p k) f ↔ Bey (vx rs q k) f) := mem_way.mp hfw
      by_cases a1 : Bey (vx rs c k) f <;> by_cases a2 : Bey (vx rs p k) f <;> by_cases a3 : Bey (vx rs q k) f <;> simp [a1, a2, a3] at h1 h2 hfd
/-- one more difference -/
theorem done_step {rs : List S} {p q c c' : List Nat} {T : List (Df S)} {d : Df S} {e : Nat} (D : Done rs p c T) (hT : ∀ d ∈ T, IsD rs p q d) (hd : IsD rs p q d) (hdT : d ∉ T)
    (hcl : ∀ y ∈ d :: T, ∀ x, AdjR rs p q x y → x ∈ T) (E : Ens rs d.1 e) (h0 : d.1.2 ≠ 0) (hs : rs[d.1.2 - 1]? = some d.1.1) :
    (∀ j, d.1.2 ≤ j → j < e → j ∉ c) ∧ ∀ c', Edited rs.length d.1.2 e c c' → Done rs p c' (T ++ [d]) := by
  have st := fun k hk hcov => stands (k := k) hk D hT hd hdT hcov hcl
  have hb := hd.2.1
  have nohop : ∀ j, d.1.2 ≤ j → j < e → j ∉ c := fun j h1 h2 hj => by
    have hle := E.le
    have hlt : j < rs.length := by omega
    have k1 := st j (by omega) ((cover E hb (by omega)).mpr ⟨h1, by omega⟩)
    have k2 := st (j + 1) (by omega) ((cover E hb (by omega)).mpr ⟨by omega, by omega⟩)
    have hq : Bey (vx rs q j) d.2 ↔ Bey (vx rs q (j + 1)) d.2 := by
      rw [bey_lease rs q d.2 j, bey_lease rs q d.2 (j + 1), hd.1, (cover E hb (by omega)).mpr ⟨h1, by omega⟩, (cover E hb (by omega)).mpr ⟨by omega, by omega⟩]
    have same : vx rs c (j + 1) = vx rs c j := by
      rcases k1 with ⟨a, b⟩ | ⟨a, b⟩ <;> rcases k2 with ⟨a', b'⟩ | ⟨a', b'⟩
      · rw [a, a']
      · exact absurd (hq.mp b) b'
      · exact absurd (hq.mpr b') b
      · rw [a, a']
    rw [vx_step (List.getElem?_eq_getElem hlt), if_pos hj] at same
    exact push_ne _ _ same
  refine ⟨nohop, fun c' hc' k hk x => ?_⟩
  rw [vx_edit E h0 hs nohop hc' k hk]
  have hx := D k hk x
  have mem : ent rs k x ∉ T ++ [d] ↔ ent rs k x ∉ T ∧ ent rs k x ≠ d := by
    rw [List.mem_append, List.mem_singleton, not_or]
  rw [mem]
  split
  · rename_i hcov
    have hcv := (cover E hb hk).mpr hcov
    have hcr : cr (vx rs c k) d.1.1 = d.2 := by
      have hred := way_red (vx_isRed rs p k) (vx_isRed rs q k) (isD_ent hd hcv).1
      rcases st k hk hcv with ⟨a, _⟩ | ⟨a, _⟩
      · rw [a, ← hd.1]; exact (cr_of hred).1
      · rw [a, ← hd.1]; exact (cr_of hred).2
    have hp := bey_push (vx rs c k) d.1.1 x
    rw [hcr] at hp
    have he := (isD_ent hd hcv).2
    by_cases hxd : x = d.2
    · subst hxd
      have h1 : ¬ (Bey (push (vx rs c k) d.1.1) d.2 ↔ Bey (vx rs c k) d.2) := fun z => hp.mp z rfl
      have h2 : Bey (vx rs c k) d.2 ↔ Bey (vx rs p k) d.2 := hx.mpr (by rw [he]; exact hdT)
      constructor
      · intro z
        exact absurd (z.trans h2.symm) h1
      · rintro ⟨_, z⟩
        exact absurd he z
    · rw [hp.mpr hxd, hx]
      have : ent rs k x ≠ d := fun z => hxd (by rw [← z])
      simp [this]
  · rename_i hcov
    rw [hx]
    have : ent rs k x ≠ d := fun z => by
      refine hcov ((cover E hb hk).mp ?_)
      rw [← z]
    simp [this]
/-- the plans behind the first edits -/
def runP (ed : List Nat → S × Nat → List Nat) (p : List Nat) (ls : List (Df S)) : List Nat := ls.foldl (fun c d => ed c d.1) p
theorem script_done {rs : List S} {p q : List Nat} {out : List (Df S)} {ed : List Nat → S × Nat → List Nat} {en : S × Nat → Nat} (nd : out.Nodup) (hsub : ∀ d ∈ out, IsD rs p q d)
    (hord : ∀ (i : Nat) (d : Df S), out[i]? = some d → ∀ x, AdjR rs p q x d → x ∈ out.take i) (hen : ∀ d ∈ out, Ens rs d.1 (en d.1)) (hl : ∀ d ∈ out, d.1.2 ≠ 0 ∧ rs[d.1.2 - 1]? = some d.1.1)
    (hed : ∀ c, ∀ d ∈ out, Edited rs.length d.1.2 (en d.1) c (ed c d.1)) : ∀ i, i ≤ out.length → Done rs p (runP ed p (out.take i)) (out.take i) ∧ ∀ d, out[i]? = some d → ∀ j, d.1.2 ≤ j → j < en d.1 → j ∉ runP ed p (out.take i) := by
  have step : ∀ i, i ≤ out.length → Done rs p (runP ed p (out.take i)) (out.take i) → ∀ d, out[i]? = some d → (∀ j, d.1.2 ≤ j → j < en d.1 → j ∉ runP ed p (out.take i)) ∧ Done rs p (runP ed p (out.take (i + 1))) (out.take (i + 1)) := by
    intro i hi D d hd
    have hm := List.mem_of_getElem? hd
    have htk : out.take (i + 1) = out.take i ++ [d] := by rw [List.take_succ, hd]; rfl
    have hdT : d ∉ out.take i := fun z => by
      have h1 : (out.take (i + 1)).Nodup := nd.sublist (List.take_sublist _ _)
      rw [htk] at h1
      exact (List.nodup_append.mp h1).2.2 d z d List.mem_cons_self rfl
    have hcl : ∀ y ∈ d :: out.take i, ∀ x, AdjR rs p q x y → x ∈ out.take i := fun y hy x hx => by
      rcases List.mem_cons.mp hy with e | e
      · subst e; exact hord i y hd x hx
      · obtain ⟨j, hj⟩ := List.mem_iff_getElem?.mp e
        have hji : j < i := by
          have := (List.getElem?_eq_some_iff.mp hj).1
          rw [List.length_take] at this; omega
        rw [List.getElem?_take, if_pos hji] at hj
        have := hord j y hj x hx
        have e2 : out.take j = (out.take i).take j := by rw [List.take_take, Nat.min_eq_left (by omega)]
        rw [e2] at this
        exact List.mem_of_mem_take this
    obtain ⟨a, b⟩ := done_step (c' := []) D (fun d hd => hsub d (List.mem_of_mem_take hd)) (hsub d hm) hdT hcl (hen d hm) (hl d hm).1 (hl d hm).2
    refine ⟨a, ?_⟩
    have hr : runP ed p (out.take (i + 1)) = ed (runP ed p (out.take i)) d.1 := by
      unfold runP
      rw [htk, List.foldl_append]; rfl
    rw [hr, htk]
    exact b _ (hed _ d hm)
  have D : ∀ i, i ≤ out.length → Done rs p (runP ed p (out.take i)) (out.take i) := by
    intro i
    induction i with
    | zero => exact fun _ k _ e => ⟨fun _ => by simp, fun _ => Iff.rfl⟩
    | succ i ih =>
      intro hi
      exact (step i (by omega) (ih (by omega)) _ (List.getElem?_eq_getElem (by omega))).2
  exact fun i hi => ⟨D i hi, fun d hd => (step i hi (D i hi) d hd).1⟩
/-- behind all of them stands the other plan -/
theorem done_all {rs : List S} {p q c : List Nat} {T : List (Df S)} (D : Done rs p c T) (hT : ∀ d, d ∈ T ↔ IsD rs p q d) : ∀ j, j < rs.length → (j ∈ c ↔ j ∈ q) := by
  have hv : ∀ k, k ≤ rs.length → vx rs c k = vx rs q k := fun k hk => bey_ext fun e => by
    have h1 := D k hk e
    have h2 : ent rs k e ∈ T ↔ e ∈ way (vx rs p k) (vx rs q k) := by
      rw [hT]
      exact ⟨isD_of_ent, ent_isD hk⟩
    rw [h2, mem_way] at h1
    by_cases a1 : Bey (vx rs c k) e <;> by_cases a2 : Bey (vx rs p k) e <;> by_cases a3 : Bey (vx rs q k) e <;> simp [a1, a2, a3] at h1 ⊢
  intro j hj
  have h1 := hv j (by omega)
  have h2 := hv (j + 1) hj
  have ht := List.getElem?_eq_getElem hj
  rw [vx_step ht, vx_step ht, h1] at h2
  by_cases a : j ∈ c <;> by_cases b : j ∈ q
  · simp [a, b]
  · rw [if_pos a, if_neg b] at h2
    exact absurd h2 (push_ne _ _)
  · rw [if_neg a, if_pos b] at h2
    exact absurd h2.symm (push_ne _ _)
  · simp [a, b]
end
end SM
end M6
section M7
set_option linter.all false
/-! M7: the search finds just what is reached (plain mathematics) -/
namespace SM
section
variable {α : Type} [DecidableEq α]
inductive Rch (nb : α → List α) (p : α) : α → Prop
  | refl : Rch nb p p
  | step {x y : α} : Rch nb p x → y ∈ nb x → Rch nb p y
theorem add1_mem (d : Nat) (fd : List (α × Nat)) (l : α) : l ∈ (add1 d fd l).map (·.1) ∧ ∀ x ∈ add1 d fd l, x ∈ fd ∨ x.1 = l := by
  unfold add1
  split
  · rename_i h; exact ⟨h, fun x hx => .inl hx⟩
  · refine ⟨by simp, fun x hx => ?_⟩
    rcases List.mem_append.mp hx with h | h
    · exact .inl h
    · rw [List.mem_singleton] at h
      exact .inr (by rw [h])
theorem fold_mem (d : Nat) : ∀ (ls : List α) (fd : List (α × Nat)), (∀ l ∈ ls, l ∈ (ls.foldl (add1 d) fd).map (·.1)) ∧ ∀ x ∈ ls.foldl (add1 d) fd, x ∈ fd ∨ x.1 ∈ ls
  | [], fd => ⟨fun l h => absurd h (by simp), fun x hx => Or.inl hx⟩
  | a :: ls, fd => by
    obtain ⟨h1, h2⟩ := fold_mem d ls (add1 d fd a)
    obtain ⟨k1, k2⟩ := add1_mem d fd a
    rw [List.foldl_cons]
    refine ⟨fun l hl => ?_, fun x hx => ?_⟩
    · rcases List.mem_cons.mp hl with e | e
      · subst e
        obtain ⟨t, ht⟩ := fold_pre d ls (add1 d fd l)
        rw [ht, List.map_append]
        exact List.mem_append_left _ k1
      · exact h1 l e
    · rcases h2 x hx with e | e
      · rcases k2 x e with e | e
        · exact .inl e
        · exact .inr (by rw [e]; exact List.mem_cons_self)
      · exact .inr (List.mem_cons_of_mem _ e)
theorem bfsRun_ok {nb : α → List α} {ok : α → Prop} {p : α} {N : Nat} (hcard : ∀ fd, BfsOk ok fd → fd.length ≤ N) (hnb : ∀ x, ok x → ∀ y ∈ nb x, ok y) : ∀ (n : Nat) (fd : List (α × Nat)) (i : Nat), BfsOk ok fd → N < n + i → i ≤ fd.length →
    (∀ j x, j < i → fd[j]? = some x → ∀ y ∈ nb x.1, y ∈ fd.map (·.1)) → (∀ x ∈ fd, Rch nb p x.1) → (∃ t, bfsRun nb n fd i = fd ++ t) ∧ BfsOk ok (bfsRun nb n fd i) ∧ (∀ x ∈ bfsRun nb n fd i, ∀ y ∈ nb x.1, y ∈ (bfsRun nb n fd i).map (·.1)) ∧ ∀ x ∈ bfsRun nb n fd i, Rch nb p x.1
  | 0, fd, i, h, hN, hi, _, _ => by have := hcard fd h; omega
  | n + 1, fd, i, h, hN, hi, hcl, hr => by
    rw [bfsRun]
    cases e : fd[i]? with
    | none =>
      show (∃ t, fd = fd ++ t) ∧ BfsOk ok fd ∧ (∀ x ∈ fd, ∀ y ∈ nb x.1, y ∈ fd.map (·.1)) ∧ ∀ x ∈ fd, Rch nb p x.1
      refine ⟨⟨[], by simp⟩, h, fun x hx y hy => ?_, hr⟩
      obtain ⟨j, hj⟩ := List.mem_iff_getElem?.mp hx
      have h1 := (List.getElem?_eq_some_iff.mp hj).1
      have h2 := List.getElem?_eq_none_iff.mp e
      exact hcl j x (by omega) hj y hy
    | some x =>
      have hx := List.mem_of_getElem? e
      obtain ⟨t, ht⟩ := fold_pre x.2 (nb x.1) fd
      obtain ⟨f1, f2⟩ := fold_mem x.2 (nb x.1) fd
      have hi2 := (List.getElem?_eq_some_iff.mp e).1
      have := bfsRun_ok (p := p) hcard hnb n ((nb x.1).foldl (add1 x.2) fd) (i + 1) (BfsOk.fold x.2 (nb x.1) h (hnb x.1 (h.ok x hx))) (by omega) (by rw [ht, List.length_append]; omega) (fun j z hj hz y hy => ?_) (fun z hz => ?_)
      · obtain ⟨⟨t2, e2⟩, a, b, c⟩ := this
        exact ⟨⟨t ++ t2, by rw [← List.append_assoc, ← ht]; exact e2⟩, a, b, c⟩
      · rcases Nat.lt_or_eq_of_le (Nat.le_of_lt_succ hj) with h1 | h1
        · have hz2 : fd[j]? = some z := by
            rw [ht, List.getElem?_append_left (by omega)] at hz; exact hz
          have := hcl j z h1 hz2 y hy
          rw [ht, List.map_append]
          exact List.mem_append_left _ this
        · subst h1
          have hz2 : fd[j]? = some z := by
            rw [ht, List.getElem?_append_left (by omega)] at hz; exact hz
          rw [e] at hz2
          cases hz2
          exact f1 y hy
      · rcases f2 z hz with q | q
        · exact hr z q
        · exact (hr x hx).step q
theorem bfs_ok {nb : α → List α} {ok : α → Prop} {p : α} {N B : Nat} (hcard : ∀ fd, BfsOk ok fd → fd.length ≤ N) (hnb : ∀ x, ok x → ∀ y ∈ nb x, ok y) (hp : ok p) (hB : N < B) :
    BfsOk ok (bfs B nb p) ∧ ∀ q, q ∈ (bfs B nb p).map (·.1) ↔ Rch nb p q := by
  obtain ⟨⟨t, e⟩, a, b, c⟩ := bfsRun_ok (p := p) hcard hnb B [(p, 0)] 0 ⟨by simp, fun x hx => by rw [List.mem_singleton.mp hx]; exact hp⟩ (by omega) (Nat.zero_le _) (fun j x hj => by omega) (fun x hx => by rw [List.mem_singleton.mp hx]; exact .refl)
  refine ⟨a, fun q => ⟨fun h => ?_, fun h => ?_⟩⟩
  · obtain ⟨x, hx, rfl⟩ := List.mem_map.mp h
    exact c x hx
  · induction h with
    | refl =>
      show p ∈ (bfsRun nb B [(p, 0)] 0).map (·.1)
      rw [e]; simp
    | step h1 h2 ih =>
      obtain ⟨x, hx, e⟩ := List.mem_map.mp ih
      exact b x hx _ (by rw [e]; exact h2)
/-- nothing is found deeper than late -/
def Shallow (fd : List (α × Nat)) : Prop := ∀ (j : Nat) (x : α × Nat), fd[j]? = some x → x.2 ≤ j
theorem Shallow.add1 {fd : List (α × Nat)} (h : Shallow fd) {d : Nat} (hd : d < fd.length) (l : α) : Shallow (SM.add1 d fd l) := by
  unfold SM.add1
  split
  · exact h
  · intro j x hj
    by_cases hl : j < fd.length
    · rw [List.getElem?_append_left hl] at hj
      exact h j x hj
    · rw [List.getElem?_append_right (by omega)] at hj
      have hj0 := (List.getElem?_eq_some_iff.mp hj).1
      simp only [List.length_singleton] at hj0
      rw [show j - fd.length = 0 by omega] at hj
      cases hj
      show d + 1 ≤ j
      omega
theorem Shallow.fold {d : Nat} : ∀ (ls : List α) {fd : List (α × Nat)}, Shallow fd → d < fd.length → Shallow (ls.foldl (SM.add1 d) fd)
  | [], _, h, _ => h
  | l :: ls, fd, h, hd => Shallow.fold ls (h.add1 hd l) (Nat.lt_of_lt_of_le hd (add1_len d fd l))
theorem bfsRun_depth {nb : α → List α} : ∀ (n : Nat) (fd : List (α × Nat)) (i : Nat), Shallow fd → Shallow (bfsRun nb n fd i)
  | 0, fd, i, h => h
  | n + 1, fd, i, h => by
    rw [bfsRun]
    cases e : fd[i]? with
    | none => exact h
    | some x =>
      have h1 := h i x e
      have h2 := (List.getElem?_eq_some_iff.mp e).1
      exact bfsRun_depth n _ (i + 1) (Shallow.fold (nb x.1) h (by omega))
theorem bfs_depth (B : Nat) (nb : α → List α) (p : α) : Shallow (bfs B nb p) := bfsRun_depth B _ 0 fun j x hj => by
  cases j with
  | zero => cases hj; exact Nat.le_refl _
  | succ j => simp at hj
end
end SM
end M7
section DLB
set_option Elab.async false
set_option linter.all false
set_option maxRecDepth 100000
set_option maxHeartbeats 1000000
/-! DLB: defs that turn their first argument, a list of their caller's -/
namespace DL
open PySem PySem.Spec PyProof.Rows L2
def startB (N : List Str) (bag : List PyData) (ds : List Dt) : Sv := some (.lst bag) :: (ds.map (fun d => some (.dat d)) ++ List.replicate (N.length - (ds.length + 1)) none)
section
variable {P : Program} {w : World} {K : PySem.W.Frag} {mg : Str → Option Value} {base : Heap} {H : Hp}
theorem rep_startB {N : List Str} {a : Addr} {vl : List V} {bag : List PyData} {us : List V} {ds : List Dt} (ha : H a = some (.lst vl)) (hv : DvAll H vl bag) (h : DtAll P w H us ds) :
    Rep P w H (L2.start N (.ref a :: us)) (startB N bag ds) ∧ (∀ b, ownA (L2.start N (.ref a :: us)) (startB N bag ds) b → b = a) ∧ (L2.start N (.ref a :: us))[0]? = some (some (.ref a)) := by
  have h0 : (L2.start N (.ref a :: us))[0]? = some (some (.ref a)) := start_get (vs := .ref a :: us) rfl
  have inn : ∀ {i : Nat} {c : Cell}, (startB N bag ds)[i]? = some (some c) → (i = 0 ∧ c = .lst bag) ∨ ∃ j d, i = j + 1 ∧ ds[j]? = some d ∧ c = .dat d := fun {i c} e => by
    cases i with
    | zero => cases e; exact .inl ⟨rfl, rfl⟩
    | succ j =>
      have e : (ds.map (fun d => some (Cell.dat d)) ++ List.replicate (N.length - (ds.length + 1)) none)[j]? = some (some c) := e
      by_cases hi : j < ds.length
      · rw [List.getElem?_append_left (by simpa using hi), List.getElem?_map] at e
        cases q : ds[j]? with
        | none => rw [q] at e; cases e
        | some d => rw [q] at e; cases e; exact .inr ⟨j, d, rfl, q, rfl⟩
      · rw [List.getElem?_append_right (by simpa using hi), List.getElem?_replicate] at e
        split at e <;> cases e
  have own0 : ∀ {i : Nat} {c : Cell}, (startB N bag ds)[i]? = some (some c) → c.own = true → i = 0 ∧ c = .lst bag := fun {i c} e ho => by
    rcases inn e with h | ⟨j, d, _, _, rfl⟩
    · exact h
    · cases ho
  refine ⟨⟨?_, fun i d e => ?_, fun i c e ho => ?_, fun i j c c' b e ho e' ho' _ _ => ?_⟩, fun b ⟨i, c, e, ho, hs⟩ => ?_, h0⟩
  · unfold L2.start startB
    simp only [List.length_append, List.length_map, List.length_replicate, List.length_cons, h.length]
    omega
  · rcases inn e with ⟨_, h2⟩ | ⟨j, d', rfl, h2, h3⟩
    · cases h2
    · cases h3
      obtain ⟨v, h3, h4⟩ := h.get h2
      exact ⟨v, start_get (vs := .ref a :: us) (by rw [List.getElem?_cons_succ]; exact h3), h4⟩
  · obtain ⟨rfl, rfl⟩ := own0 e ho
    exact ⟨a, h0, vl, ha, hv⟩
  · exact (own0 e ho).1.trans (own0 e' ho').1.symm
  · obtain ⟨rfl, _⟩ := own0 e ho
    rw [h0] at hs
    cases hs; rfl
theorem calB_of {x qual : Str} {st : Stmt} {f : Addr} {fd : FuncData} {N ps : List Str} {k n : Nat} {Fp : PrB} (F : Fun K x qual st f fd) (gx : mg x = some (.ref f)) (b : Binds K fd ps []) (S : FnScope N ps (defScope st)) (hn : ps.length = n)
    (len : ∀ bag ds R, Fp bag ds R → ds.length + 1 = n)
    (hbody : ∀ (cdv : Value) (A : Around) (outer : List Env) (s : Shared) (H : Hp) (E : XK), RoomG k (A.deeper (envOfC qual (defScope st) s.heap.objs.size f cdv)) →
      ∃ S, DSs (Cb P w K mg base N qual st f cdv A outer s H E) (defBody st) S ∧ ∀ bag ds R, Fp bag ds R → S (startB N bag ds) ⟨fun _ => False, fun d ρ => ∃ bag', ρ[0]? = some (some (.lst bag')) ∧ R d bag', fun _ => False, fun _ => False⟩) :
    CalB P w K mg base (k + 1) x n Fp := by
  refine ⟨len, f, fd, ps, gx, F.kp, b, fnG_of F S (fun vs H Q E h => ?_) fun cdv A outer s H vs Q E hr h => ?_⟩
  · obtain ⟨a, vl, bag, us, ds, R, rfl, _, _, h1, h2, _⟩ := h
    rw [List.length_cons, h1.length, h2, hn]
  · obtain ⟨a, vl, bag, us, ds, R, rfl, ha, hv, hd, hl, hF, hQ⟩ := h
    obtain ⟨S, hS, hw⟩ := hbody cdv A outer s H E hr
    obtain ⟨rep, only, h0⟩ := rep_startB (P := P) (w := w) (N := N) ha hv hd
    refine ⟨_, hS.nox, startB N bag ds, _, rep, hw bag ds R hF, ⟨fun ρ' σ' H' q le rep' => q.elim, fun d v ρ' σ' H' ⟨bag', hb, q⟩ le rep' hv => ?_, fun _ _ _ q => q.elim, fun _ _ _ q => q.elim⟩⟩
    obtain ⟨a', ha', vl', g1, g2⟩ := rep'.own 0 _ hb rfl
    rw [le.z, h0] at ha'
    cases ha'
    exact hQ d bag' v H' vl' q (fun b o hb e => le.le.keep b o e fun m => hb (only b m)) le.le.trk g1 g2 hv
end
end DL
end DLB
section DLC
set_option Elab.async false
set_option linter.all false
set_option maxRecDepth 100000
set_option maxHeartbeats 1000000
/-! DLC: text * int, "".join(..) -/
namespace DL
open PySem PySem.Spec PyProof.Rows L2
section
variable {X : Cx} {a b c e o : Expr} {es : List Expr} {Ea Eb Ec E : Et} {pos : Pos}
/-- a sign * n -/
def bMulS : Dx → Dx → Et := fun x y ρ Q => match ddOf ρ x, ddOf ρ y with
  | some (.str z), some (.int n) => z.length = 1 ∧ 1 ≤ n ∧ n ≤ 100 ∧ ∀ t : Str, t.length = n.toNat → (∀ c ∈ t.cps.toList, c ∈ z.cps.toList) → Q (.dat (.d (.str t))) ρ
  | _, _ => False
theorem fold_rep (x : Array Nat) (n : Nat) : ((List.replicate n x).foldl (· ++ ·) #[]).toList = (List.replicate n x.toList).flatten := by
  have key : ∀ (n : Nat) (acc : Array Nat), ((List.replicate n x).foldl (· ++ ·) acc).toList = acc.toList ++ (List.replicate n x.toList).flatten := by
    intro n
    induction n with
    | zero => intro acc; simp
    | succ n ih => intro acc; rw [List.replicate_succ, List.foldl_cons, ih, List.replicate_succ, List.flatten_cons]; simp
  rw [key]; simp
theorem op_mulS1 : OpR X (binaryOp .Mult) (fun x y H Q => ∃ z n, x = .str z ∧ y = .int n ∧ z.length = 1 ∧ 1 ≤ n ∧ n ≤ 100 ∧ ∀ t : Str, t.length = n.toNat → (∀ c ∈ t.cps.toList, c ∈ z.cps.toList) → Q (.str t) H) := by
  intro pins s σ H x y v u Q I rx ry ⟨z, n, hx, hy, hz, h1, h2, q⟩
  subst hx hy
  obtain ⟨t1, rfl⟩ := rx
  obtain ⟨t2, rfl⟩ := ry
  refine PySem.P.mul_str (by simp; omega) (fun _ _ => ?_) (fun _ _ => ?_) ?_
  · rw [hz]
    have : (1 : Int) ≤ (2 ^ 63 - 1) / n := Int.le_ediv_of_mul_le (by omega) (by omega)
    omega
  · rw [hz]
    have : n.toNat ≤ 100 := by omega
    exact decide_eq_false (Nat.not_lt.mpr (Nat.le_trans (m := 1000) (by omega) (by decide)))
  · rw [if_neg (by omega)]
    by_cases h : (n == 1 || z.length == 0) = true
    · rw [if_pos h]
      have hn : n = 1 := by
        rw [hz] at h
        simpa using h
      subst hn
      exact ⟨.str z, H, I, ⟨t1, rfl⟩, q z hz fun c hc => hc⟩
    · rw [if_neg h]
      have hlen : Str.length ⟨(List.replicate n.toNat z.cps).foldl (· ++ ·) #[]⟩ = n.toNat := by
        show Array.size _ = _
        rw [← Array.length_toList, fold_rep, List.length_flatten, List.map_replicate, Array.length_toList]
        have hz : z.cps.size = 1 := hz
        rw [hz]
        simp
      refine ⟨by rw [hlen]; exact Nat.le_trans (m := 1000) (by omega) (by decide), .str _, H, I.tok _, ⟨_, rfl⟩, q _ hlen fun c hc => ?_⟩
      rw [fold_rep] at hc
      obtain ⟨l, hl, hcl⟩ := List.mem_flatten.mp hc
      rw [List.eq_of_mem_replicate hl] at hcl
      exact hcl
theorem od_mulS : OpD X (binaryOp .Mult) bMulS := by
  refine OpD.ofB op_mulS1 fun σ H Hs ρ x y v u R Q rep hs hx hy k q => ?_
  unfold bMulS at k
  split at k
  · rename_i z n e1 e2
    exact ⟨z, n, dd_str rep hx e1, dd_int rep hy e2, k.1, k.2.1, k.2.2.1, fun t ht hc => q _ _ (dl_dat rep (k.2.2.2 t ht hc) (.str t))⟩
  · exact k.elim
/-- "".join(a new list of texts) -/
def txts : List PyData → Option (List Str)
  | [] => some []
  | .str z :: l => (txts l).map (z :: ·)
  | _ => none
theorem txts_some : ∀ {l : List PyData} {ys : List Str} {H : Hp} {vs : List V}, txts l = some ys → DvAll H vs l → vs = ys.map V.str
  | [], ys, H, vs, h, hv => by cases h; cases hv; rfl
  | .str z :: l, ys, H, vs, h, hv => by
    rw [txts] at h
    obtain ⟨r, h1, rfl⟩ := Option.map_eq_some_iff.mp h
    cases hv with
    | cons a t =>
      cases a
      rw [txts_some h1 t]; rfl
  | .none :: _, _, _, _, h, _ => by simp [txts] at h
  | .bool _ :: _, _, _, _, h, _ => by simp [txts] at h
  | .int _ :: _, _, _, _, h, _ => by simp [txts] at h
  | .list _ :: _, _, _, _, h, _ => by simp [txts] at h
  | .tuple _ :: _, _, _, _, h, _ => by simp [txts] at h
  | .dict _ :: _, _, _, _, h, _ => by simp [txts] at h
theorem joinL_len (ps : List (List Nat)) : (TL.joinL [] ps).length = (ps.map List.length).sum ∧ ∀ c ∈ TL.joinL [] ps, ∃ p ∈ ps, c ∈ p := by
  induction ps with
  | nil => simp [TL.joinL]
  | cons p ps ih =>
    cases ps with
    | nil => simp [TL.joinL]
    | cons q r =>
      rw [TL.joinL]
      refine ⟨by rw [List.nil_append, List.length_append, ih.1]; simp, fun c hc => ?_⟩
      rw [List.nil_append] at hc
      rcases List.mem_append.mp hc with h | h
      · exact ⟨p, List.mem_cons_self, h⟩
      · obtain ⟨u, hu, hc⟩ := ih.2 c h
        exact ⟨u, List.mem_cons_of_mem _ hu, hc⟩
def eJoin (E : Et) (A : At) : Et := fun ρ Q => E ρ fun x ρ1 => ddOf ρ1 x = some (.str "") ∧ A ρ1 fun xs ρ2 => ∃ l ys, xs = [.new (.lst l)] ∧ txts l = some ys ∧ (ys.map Str.length).sum ≤ 1000 ∧
  ∀ t : Str, t.length = (ys.map Str.length).sum → (∀ c ∈ t.cps.toList, ∃ y ∈ ys, c ∈ y.cps.toList) → Q (.dat (.d (.str t))) ρ2
theorem join_e (ys : List Str) : (Txt.join "" ys).cps.toList = TL.joinL [] (ys.map TL.tl) := by
  have h : Txt.join "" ys = Str.join "" ys := StrLaws.glued_eq_join "" ys
  rw [h]
  exact TL.tl_join "" ys
theorem de_join {apos : Pos} {name : Str} (hn : name = "join") (ho : DE X o E) (hE1 : DE X e Ea) (hs : starEach [e] X.env = [(false, eval e X.env)] := by rfl) (hbase : attributeBase o name X.env (eval o X.env) = eval o X.env := by rfl) (hline : (apos.endLine == pos.line) = true := by rfl) :
    DE X (.Call (.Attribute o name apos) [e] [] pos) (eJoin E (aCons Ea aNil)) := by
  subst hn
  refine PE.imp (pe_join ho hE1 hs hbase hline) fun σ H Q ⟨ρ, R, rep, hE, q⟩ => ⟨ρ, _, rep, hE, fun z H1 ⟨x, ρ1, ⟨hx0, h1⟩, le1, rep1, x1⟩ => ?_⟩
  have hz := dd_str rep1 x1 hx0
  subst hz
  refine ⟨⟨_, rfl⟩, ρ1, _, rep1, h1, fun z2 H2 ⟨y, ρ2, ⟨l, ys, ey, hys, hlen, hR⟩, le2, rep2, x2⟩ => ?_⟩
  cases ey
  obtain ⟨p, rfl, _, ⟨vs, hp, hv⟩, _⟩ := x2
  have hvs := txts_some hys hv
  subst hvs
  refine ⟨"", p, ys, rfl, rfl, .inl (.inl (.inl hp)), ?_, q _ _ ⟨_, ρ2, hR _ ?_ fun c hc => ?_, le1.trans le2, rep2, Dv.str _⟩⟩
  · show (ys.map Str.length).sum + ys.length * 0 ≤ 16777216
    omega
  · show Array.size _ = _
    rw [← Array.length_toList, join_e ys, (joinL_len _).1, List.map_map]
    rfl
  · rw [join_e ys] at hc
    obtain ⟨u, hu, hc⟩ := (joinL_len _).2 c hc
    obtain ⟨y, hy, rfl⟩ := List.mem_map.mp hu
    exact ⟨y, hy, hc⟩
end
end DL
end DLC
section DLD
set_option Elab.async false
set_option linter.all false
set_option maxRecDepth 100000
set_option maxHeartbeats 1000000
/-! DLD: a def that answers a new list of its caller's; a, b, c = a triple -/
namespace DL
open PySem PySem.Spec PyProof.Rows L2
abbrev PrN := List Dt → (List PyData → Prop) → Prop
def spN (P : Program) (w : World) (n : Nat) (F : PrN) : Sp := fun vs H Q _ => ∃ ds R, DtAll P w H vs ds ∧ ds.length = n ∧ F ds R ∧
  ∀ l a vl H', R l → Same H H' → (∀ b, H' b = none → H b = none) → H a = none → H' a = some (.lst vl) → DvAll H' vl l → Q (.ref a) H'
structure CalN (P : Program) (w : World) (K : PySem.W.Frag) (mg : Str → Option Value) (base : Heap) (k : Nat) (x : Str) (n : Nat) (F : PrN) : Prop where
  len : ∀ ds R, F ds R → ds.length = n
  ex : ∃ (f : Addr) (fd : FuncData) (ps : List Str), mg x = some (.ref f) ∧ PySem.W.keepIn K (.ref f) = true ∧ Binds K fd ps [] ∧ FnG P w K mg base CX0 k f fd ps (spN P w n F)
theorem CalN.mono {P : Program} {w : World} {K : PySem.W.Frag} {mg : Str → Option Value} {base : Heap} {j k : Nat} {x : Str} {n : Nat} {F : PrN} (c : CalN P w K mg base j x n F) (h : j ≤ k) : CalN P w K mg base k x n F :=
  let ⟨f, fd, ps, h1, h2, h3, h4⟩ := c.ex; ⟨c.len, f, fd, ps, h1, h2, h3, h4.mono h⟩
def eFnN (A : At) (F : PrN) : Et := fun ρ Q => A ρ fun xs ρ1 => ∃ ds, dts xs = some ds ∧ F ds fun l => Q (.new (.lst l)) ρ1
section
variable {X : Cx} {k j n : Nat} {x : Str} {p pos : Pos} {e : Expr} {es : List Expr} {A : At} {F : PrN} {E : Et}
theorem de_fnN (C : CalN X.prog X.w X.K X.mg X.base k x n F) (hr : RoomG j X.A) (hkj : k ≤ j) (hg : Gl X x) (ha : DA X (e :: es) A) (hdb : (x == ("__debug__" : Str)) = false := by decide)
    (he : starEach (e :: es) X.env = (false, eval e X.env) :: starEach es X.env := by rfl) (hpl : (backTo pos (starEach es X.env)).any (·.1) = false := by rfl) : DE X (.Call (.Name x p) (e :: es) [] pos) (eFnN A F) := by
  obtain ⟨f, fd, ps, h1, h2, h3, h4⟩ := C.ex
  refine PE.imp (pe_callG (h4.mono hkj) hr hg h1 h2 h3 pass0 ha hdb he hpl) fun σ H Q ⟨ρ, R, rep, hA, q⟩ => ?_
  refine ⟨ρ, _, rep, hA, fun vs H2 xs ρ2 ⟨ds, hd, hF⟩ le rep2 hx => ?_⟩
  have hv := dts_all hx hd
  refine ⟨ds, _, hv, C.len _ _ hF, hF, fun l a vl H' hR hs ht hn ha hdv => q (.ref a) H' ⟨.new (.lst l), ρ2, hR, ?_, rep2.same hs, ?_⟩⟩
  · exact le.trans ⟨fun b o e _ => hs b o e, ht, fun b m => .inl m⟩
  · exact ⟨a, rfl, rfl, ⟨vl, ha, hdv⟩, le.trk a hn, fun m => rep2.tracked m hn⟩
def sRetL (E : Et) (ρ0 : Sv) (R : List PyData → Prop) : Prop := E ρ0 fun x _ => ∃ l, x = .new (.lst l) ∧ R l
theorem caln_of {P : Program} {w : World} {K : PySem.W.Frag} {mg : Str → Option Value} {base : Heap} {x qual : Str} {st : Stmt} {f : Addr} {fd : FuncData} {N ps : List Str} {k n : Nat} {Fp : PrN} {e : Expr} {pos : Pos} (F : Fun K x qual st f fd) (gx : mg x = some (.ref f)) (b : Binds K fd ps []) (S : FnScope N ps (defScope st)) (hn : ps.length = n)
    (len : ∀ ds R, Fp ds R → ds.length = n) (hst : defBody st = [.Return (some e) pos])
    (hbody : ∀ (cdv : Value) (A : Around) (outer : List Env) (s : Shared) (H : Hp) (E : XK), RoomG k (A.deeper (envOfC qual (defScope st) s.heap.objs.size f cdv)) →
      ∃ Ee, DE (Cb P w K mg base N qual st f cdv A outer s H E) e Ee ∧ ∀ ds R, Fp ds R → sRetL Ee (startD N ds) R) :
    CalN P w K mg base (k + 1) x n Fp := by
  refine ⟨len, f, fd, ps, gx, F.kp, b, fnG_of F S (fun vs H Q E h => ?_) fun cdv A outer s H vs Q E hr h => ?_⟩
  · obtain ⟨ds, R, h1, h2, _⟩ := h
    rw [h1.length, h2, hn]
  · obtain ⟨ds, R, hd, hl, hF, hQ⟩ := h
    obtain ⟨Ee, hE, hw⟩ := hbody cdv A outer s H E hr
    obtain ⟨rep, no⟩ := rep_start (P := P) (w := w) (N := N) hd
    rw [hst]
    refine ⟨_, (pss_one (ps_ret hE)).nox, startD N ds, _, rep, hw ds R hF, fun v H' ⟨x, ρ', ⟨l, e, q⟩, le, rep', hx⟩ => ?_⟩
    subst e
    obtain ⟨a, rfl, _, ⟨vl, ha, hdv⟩, h0, _⟩ := hx
    exact hQ l a vl H' q (fun b o e => le.keep b o e (no b)) le.trk h0 ha hdv
/-- a, b, c = a triple -/
def gT3 (i j l : Nat) : Gt := fun d ρ R => ∃ x y z, d = .tuple [x, y, z] ∧ i < ρ.length ∧ j < ρ.length ∧ l < ρ.length ∧ R (((ρ.set i (some (.dat (.d x)))).set j (some (.dat (.d y)))).set l (some (.dat (.d z))))
theorem dg_tri {i j l : Nat} {x y z : Str} {k : Nat} {p1 p2 p3 : Pos} (hc : X.calm = true) (hN : X.N.Nodup) (hi : X.N[i]? = some x) (hj : X.N[j]? = some y) (hl : X.N[l]? = some z) (hx : Loc X.env.scope x) (hy : Loc X.env.scope y) (hz : Loc X.env.scope z)
    (hf : X.fn x = true ∨ X.env.scope.names.lookup x = some .local := by first | exact .inl rfl | exact .inr rfl | assumption) (hf2 : X.fn y = true ∨ X.env.scope.names.lookup y = some .local := by first | exact .inl rfl | exact .inr rfl | assumption) (hf3 : X.fn z = true ∨ X.env.scope.names.lookup z = some .local := by first | exact .inl rfl | exact .inr rfl | assumption)
    (s1 : (assignEach [.Name x p1, .Name y p2, .Name z p3] X.env).map (·.2) = assign (.Name x p1) X.env :: (assignEach [.Name y p2, .Name z p3] X.env).map (·.2) := by rfl) (s2 : (assignEach [.Name y p2, .Name z p3] X.env).map (·.2) = assign (.Name y p2) X.env :: (assignEach [.Name z p3] X.env).map (·.2) := by rfl)
    (s3 : (assignEach [.Name z p3] X.env).map (·.2) = assign (.Name z p3) X.env :: (assignEach [] X.env).map (·.2) := by rfl)
    (hn : (assignEach [.Name x p1, .Name y p2, .Name z p3] X.env).length = 3 := by rfl) (hst : (assignEach [.Name x p1, .Name y p2, .Name z p3] X.env).findIdx? (·.1) = none := by rfl) : DG X (.Tuple [.Name x p1, .Name y p2, .Name z p3] k pos) [i, j, l] (gT3 i j l) :=
  PG.imp (pg_tup hc (pgs_cons (pg_name hN hi hx hf) (pgs_cons (pg_name hN hj hy hf2) (pgs_cons (pg_name hN hl hz hf3) pgs_nil s3) s2) s1) hn hst) fun v σ H Q ⟨ρ, d, R, rep, hv, ⟨dx, dy, dz, e, hl1, hl2, hl3, hR⟩, q⟩ => by
    subst e
    cases hv with
    | tup ha hd =>
      cases hd with
      | cons h1 t =>
        cases t with
        | cons h2 t =>
          cases t with
          | cons h3 t =>
            cases t
            refine ⟨_, _, rfl, .inl (.inl ha), rfl, _, _, rfl, _, _, rfl, _, _, rfl, rfl, ?_⟩
            obtain ⟨r1, l1⟩ := store_d rep hl1 h1
            obtain ⟨r2, l2⟩ := store_d r1 (by rw [List.length_set]; exact hl2) h2
            obtain ⟨r3, l3⟩ := store_d r2 (by rw [List.length_set, List.length_set]; exact hl3) h3
            refine q _ _ _ hR ((l1.trans l2).trans l3) r3 (fun m hm => ?_) (by rw [List.length_set, List.length_set, List.length_set])
            rw [List.getElem?_set_ne fun z => hm (by simp [z]), List.getElem?_set_ne fun z => hm (by simp [z]), List.getElem?_set_ne fun z => hm (by simp [z])]
end
end DL
end DLD
section DLE
set_option Elab.async false
set_option linter.all false
set_option maxRecDepth 100000
set_option maxHeartbeats 1000000
/-! DLE: dict(zip(a tuple, a tuple)): the pairs -/
namespace DL
open PySem PySem.Spec PyProof.Rows L2
section
variable {prog : Program} {w : World} {A : Around} {E : Value → Shared → Prop} {s : Shared}
/-- zip's next, its last pair still held: how the two draws go -/
theorem zipHeld_next {z TI TO T i1 i2 : Addr} {f : Bool} {oT : Obj} {Q : Fin → Shared → Prop}
    (hz : IsZipHeld s.heap z TI TO T f) (hT : s.heap.get? T = some oT) (hTI : IsPair s.heap TI (.ref i1) (.ref i2))
    (h : ∀ h₁, IsZipHeld h₁ z TI TO T true → Heap.SameBut z s.heap h₁ → wpAny (model prog w) A (Builtin.SmallTypes.nextOf (.ref i1)) (fun x s₂ =>
      wpAny (model prog w) A (Builtin.SmallTypes.nextOf (.ref i2)) (fun y s₃ => Q (.done (.ret (.ref s₃.heap.objs.size))) { s₃ with heap := s₃.heap.push { cls := .type "tuple", data := .seq #[x, y] } }) E s₂) E { s with heap := h₁ }) :
    wpAny (model prog w) A (Builtin.«zip.__next__» ⟨[.ref z], []⟩) Q E s := by
  show wpAny _ _ (field (.ref z) 2 >>= _) _ _ _
  refine wpAny_bind (wpAny_field hz rfl (x := .bool false) rfl ?_)
  show wpAny _ _ (field (.ref z) 3 >>= _) _ _ _
  refine wpAny_bind (wpAny_field hz rfl (x := .ref TI) rfl ?_)
  refine wpAny_bind (wpAny_seqItems hTI rfl ?_)
  show wpAny _ _ (Builtin.SmallTypes.ownedTupleIsFree (.ref z) >>= _) _ _ _
  refine wpAny_bind (wpAny_tupleHeld_zip hz hT fun h₁ hz₁ hs₁ => ?_)
  simp only [Bool.false_eq_true, if_false]
  refine wpAny_bind ?_
  rw [← Array.forIn_toList]
  simp only [List.forIn_cons, List.forIn_nil]
  refine wpAny_bind (wpAny_bind (wpAny_holding ?_))
  show wpAny _ _ (Builtin.SmallTypes.nextOf (.ref i1) >>= _) _ _ _
  refine wpAny_bind (wpAny_mono (h h₁ hz₁ hs₁) (fun x s₂ hx => wpAny_pure ?_) fun _ _ q => q)
  refine wpAny_pure ?_
  refine wpAny_bind (wpAny_bind (wpAny_holding ?_))
  show wpAny _ _ (Builtin.SmallTypes.nextOf (.ref i2) >>= _) _ _ _
  refine wpAny_bind (wpAny_mono hx (fun y s₃ hy => wpAny_pure ?_) fun _ _ q => q)
  refine wpAny_pure (wpAny_pure ?_)
  show wpAny _ _ (newTuple [x, y] >>= _) _ _ _
  exact wpAny_bind (wpAny_newTuple (wpAny_pure hy))
theorem zipHeld_item {z TI TO T i1 i2 l1 l2 : Addr} {f : Bool} {oT : Obj} {k1 k2 : Nat} {xs ys : Array Value} {x y : Value} {Q : Option Value → Shared → Prop} (D : ZipApart z TI TO i1 i2 l1 l2)
    (hz : IsZipHeld s.heap z TI TO T f) (hT : s.heap.get? T = some oT) (hTI : IsPair s.heap TI (.ref i1) (.ref i2))
    (h1 : s.heap.IsTupleIter i1 l1 k1) (h2 : s.heap.IsTupleIter i2 l2 k2) (hl1 : s.heap.IsTuple l1 xs) (hl2 : s.heap.IsTuple l2 ys) (hx : xs[k1]? = some x) (hy : ys[k2]? = some y)
    (hQ : ∀ h', IsZipHeld h' z TI TO T true → h'.IsTupleIter i1 l1 (k1 + 1) → h'.IsTupleIter i2 l2 (k2 + 1) → IsPair h' s.heap.objs.size x y →
      (∀ c o, c ≠ z → c ≠ i1 → c ≠ i2 → s.heap.get? c = some o → h'.get? c = some o) → Q (some (.ref s.heap.objs.size)) { s with heap := h' }) :
    wpAny (model prog w) A (pyNext (.ref z)) Q E s := by
  have hTy : s.TypeIs (.ref z) "zip" := ⟨_, hz, rfl⟩
  unfold pyNext
  refine wpAny_bind (wpAny_attempt (wpAny_callSpecial?_slot (name := Str.ofString "__next__") hTy F.slot_zip_next
    (wpAny_call_entry F.slot_zip_next hTy F.entry_zip_next ?_ (F.args_zip_next_1 _))))
  refine zipHeld_next hz hT hTI fun h₁ hz₁ hs₁ => ?_
  refine wpAny_nextOf_tuple_item (s := { s with heap := h₁ }) (h1.extBut hs₁.extBut D.i1z) (hl1.extBut hs₁.extBut D.l1z) hx fun h₂ h1₂ hs₂ => ?_
  refine wpAny_nextOf_tuple_item (s := { s with heap := h₂ }) ((h2.extBut hs₁.extBut D.i2z).extBut hs₂.extBut D.i12.symm) ((hl2.extBut hs₁.extBut D.l2z).extBut hs₂.extBut D.l2i1) hy fun h₃ h2₃ hs₃ => ?_
  have hsz : h₃.objs.size = s.heap.objs.size := by rw [hs₃.1, hs₂.1, hs₁.1]
  have hk : ∀ c o, c ≠ z → c ≠ i1 → c ≠ i2 → s.heap.get? c = some o → h₃.get? c = some o := fun c o c1 c2 c3 e => hs₃.extBut _ _ c3 (hs₂.extBut _ _ c2 (hs₁.extBut _ _ c1 e))
  have hz₃ : IsZipHeld h₃ z TI TO T true := hs₃.extBut _ _ D.i2z.symm (hs₂.extBut _ _ D.i1z.symm hz₁)
  have h1₃ : h₃.IsTupleIter i1 l1 (k1 + 1) := h1₂.extBut hs₃.extBut D.i12
  refine ⟨_, rfl, wpAny_pure ?_⟩
  have hp : IsPair (h₃.push { cls := .type "tuple", data := .seq #[x, y] }) h₃.objs.size x y := Heap.get?_push_size _ rfl
  show Q (some (.ref h₃.objs.size)) _
  rw [hsz] at hp ⊢
  exact hQ _ (Heap.get?_push_of_some _ hz₃) (h1₃.at fun o e => Heap.get?_push_of_some _ e) (h2₃.at fun o e => Heap.get?_push_of_some _ e) hp fun c o c1 c2 c3 e => Heap.get?_push_of_some _ (hk c o c1 c2 c3 e)
theorem zipHeld_end {z TI TO T i1 i2 l1 l2 : Addr} {f : Bool} {oT : Obj} {k1 k2 : Nat} {xs ys : Array Value} {Q : Option Value → Shared → Prop} (hh : A.handled = none) (D : ZipApart z TI TO i1 i2 l1 l2)
    (hz : IsZipHeld s.heap z TI TO T f) (hT : s.heap.get? T = some oT) (hTI : IsPair s.heap TI (.ref i1) (.ref i2))
    (h1 : s.heap.IsTupleIter i1 l1 k1) (h2 : s.heap.IsTupleIter i2 l2 k2) (hl1 : s.heap.IsTuple l1 xs) (hl2 : s.heap.IsTuple l2 ys) (hend : xs[k1]? = none ∨ ys[k2]? = none)
    (hQ : ∀ h', (∀ c o, c ≠ z → c ≠ i1 → c ≠ i2 → s.heap.get? c = some o → h'.get? c = some o) → Q none { s with heap := h' }) : wpAny (model prog w) A (pyNext (.ref z)) Q E s := by
  have hTy : s.TypeIs (.ref z) "zip" := ⟨_, hz, rfl⟩
  unfold pyNext
  refine wpAny_bind (wpAny_attempt (wpAny_callSpecial?_slot (name := Str.ofString "__next__") hTy F.slot_zip_next
    (wpAny_call_entry F.slot_zip_next hTy F.entry_zip_next ?_ (F.args_zip_next_1 _))))
  refine zipHeld_next hz hT hTI fun h₁ hz₁ hs₁ => ?_
  cases hx : xs[k1]? with
  | none =>
    refine wpAny_nextOf_tuple_end (s := { s with heap := h₁ }) hh (h1.extBut hs₁.extBut D.i1z) (hl1.extBut hs₁.extBut D.l1z) hx fun h₂ e hs₂ ⟨o, ho, hc⟩ => ?_
    refine wpAny_bind (wpAny_isInstance (T := "StopIteration") (b := true) ⟨o, ho, hc⟩ isSubtype_stop ?_)
    exact wpAny_pure (hQ _ fun c o c1 c2 _ x => hs₂ _ _ c2 (hs₁.extBut _ _ c1 x))
  | some x =>
    have hy : ys[k2]? = none := by rcases hend with h | h; rw [hx] at h; cases h; exact h
    refine wpAny_nextOf_tuple_item (s := { s with heap := h₁ }) (h1.extBut hs₁.extBut D.i1z) (hl1.extBut hs₁.extBut D.l1z) hx fun h₂ h1₂ hs₂ => ?_
    refine wpAny_nextOf_tuple_end (s := { s with heap := h₂ }) hh ((h2.extBut hs₁.extBut D.i2z).extBut hs₂.extBut D.i12.symm) ((hl2.extBut hs₁.extBut D.l2z).extBut hs₂.extBut D.l2i1) hy fun h₃ e hs₃ ⟨o, ho, hc⟩ => ?_
    refine wpAny_bind (wpAny_isInstance (T := "StopIteration") (b := true) ⟨o, ho, hc⟩ isSubtype_stop ?_)
    exact wpAny_pure (hQ _ fun c o c1 c2 c3 x => hs₃ _ _ c3 (hs₂.extBut _ _ c2 (hs₁.extBut _ _ c1 x)))
end
section
variable {prog : Program} {w : World}
/-- the state of a zip of two tuples behind i pairs, d: what is filled -/
structure ZipTSt (z TI TO i1 i2 l1 l2 : Addr) (xs ys : Array Value) (d : Addr) (i : Nat) (h : Heap) : Prop where
  ti : IsPair h TI (.ref i1) (.ref i2)
  h1 : h.IsTupleIter i1 l1 i
  h2 : h.IsTupleIter i2 l2 i
  l1 : h.IsTuple l1 xs
  l2 : h.IsTuple l2 ys
  st : (IsZip h z TI TO .none ∧ ∃ a b, IsPair h TO a b) ∨ ∃ T f oT, IsZipHeld h z TI TO T f ∧ h.get? T = some oT ∧ T ≠ z ∧ T ≠ i1 ∧ T ≠ i2 ∧ T ≠ d
theorem zipT_src {z TI TO i1 i2 l1 l2 d : Addr} (D : ZipApart z TI TO i1 i2 l1 l2) {xs ys : Array Value} {A : Around} (hh : A.handled = none) (hd : ∀ b ∈ [z, TI, TO, i1, i2, l1, l2], b ≠ d) :
    PairSrc prog w A z d [z, TO, i1, i2] (min xs.size ys.size) (fun i k v => xs[i]? = some k ∧ ys[i]? = some v) (ZipTSt z TI TO i1 i2 l1 l2 xs ys d) where
  off := fun hm => by
    simp only [List.mem_cons, List.not_mem_nil, or_false] at hm
    rcases hm with e | e | e | e <;> exact hd d (by simp [e]) rfl
  frame := fun i h h' st hk => by
    refine ⟨hk _ _ (hd _ (by simp)) st.ti, st.h1.at fun o e => hk _ o (hd _ (by simp)) e, st.h2.at fun o e => hk _ o (hd _ (by simp)) e, st.l1.at fun o e => hk _ o (hd _ (by simp)) e, st.l2.at fun o e => hk _ o (hd _ (by simp)) e, ?_⟩
    rcases st.st with ⟨hz, a, b, hTO⟩ | ⟨T, f, oT, hz, hT, r1, r2, r3, r4⟩
    · exact .inl ⟨hk _ _ (hd _ (by simp)) hz, a, b, hk _ _ (hd _ (by simp)) hTO⟩
    · exact .inr ⟨T, f, oT, hk _ _ (hd _ (by simp)) hz, hk _ _ r4 hT, r1, r2, r3, r4⟩
  item := fun i s Q E hi st hds hQ => by
    have hix : i < xs.size := Nat.lt_of_lt_of_le hi (Nat.min_le_left ..)
    have hiy : i < ys.size := Nat.lt_of_lt_of_le hi (Nat.min_le_right ..)
    have ex := Array.getElem?_eq_getElem hix
    have ey := Array.getElem?_eq_getElem hiy
    have lt : ∀ {c o}, s.heap.get? c = some o → s.heap.objs.size ≠ c := fun e => Nat.ne_of_gt (Heap.lt_size e)
    have n1 : s.heap.objs.size ≠ i1 := let ⟨_, e, _⟩ := st.h1; lt e
    have n2 : s.heap.objs.size ≠ i2 := let ⟨_, e, _⟩ := st.h2; lt e
    rcases st.st with ⟨hz, a, b, hTO⟩ | ⟨T, f, oT, hz, hT, r1, r2, r3, r4⟩
    · refine RZ.pyNext_zipT_item D hz st.ti hTO st.h1 st.h2 st.l1 st.l2 ex ey fun h' a1 a2 a3 a4 a5 a6 hk => ?_
      exact hQ s.heap.objs.size _ _ h' s.toks ⟨ex, ey⟩ (.inl ⟨_, a5, rfl, _, rfl⟩)
        ⟨hk _ _ D.TIz D.TITO D.TIi1 D.TIi2 st.ti, a3, a4, st.l1.at fun o e => hk _ o D.l1z D.l1TO D.l1i1 D.l1i2 e, st.l2.at fun o e => hk _ o D.l2z D.l2TO D.l2i1 D.l2i2 e, .inr ⟨s.heap.objs.size, false, _, a1, a5, lt hz, n1, n2, Nat.ne_of_gt hds⟩⟩
        fun c o hc e => hk c o (fun x => hc (by simp [x])) (fun x => hc (by simp [x])) (fun x => hc (by simp [x])) (fun x => hc (by simp [x])) e
    · refine zipHeld_item D hz hT st.ti st.h1 st.h2 st.l1 st.l2 ex ey fun h' a1 a3 a4 a5 hk => ?_
      exact hQ s.heap.objs.size _ _ h' s.toks ⟨ex, ey⟩ (.inl ⟨_, a5, rfl, _, rfl⟩)
        ⟨hk _ _ D.TIz D.TIi1 D.TIi2 st.ti, a3, a4, st.l1.at fun o e => hk _ o D.l1z D.l1i1 D.l1i2 e, st.l2.at fun o e => hk _ o D.l2z D.l2i1 D.l2i2 e, .inr ⟨T, true, oT, a1, hk _ _ r1 r2 r3 hT, r1, r2, r3, r4⟩⟩
        fun c o hc e => hk c o (fun x => hc (by simp [x])) (fun x => hc (by simp [x])) (fun x => hc (by simp [x])) e
  done := fun s Q E st hQ => by
    have hend : xs[min xs.size ys.size]? = none ∨ ys[min xs.size ys.size]? = none := by
      rcases Nat.le_total xs.size ys.size with h | h
      · exact .inl (Array.getElem?_eq_none (by rw [Nat.min_eq_left h]; exact Nat.le_refl _))
      · exact .inr (Array.getElem?_eq_none (by rw [Nat.min_eq_right h]; exact Nat.le_refl _))
    rcases st.st with ⟨hz, a, b, hTO⟩ | ⟨T, f, oT, hz, hT, r1, r2, r3, r4⟩
    · exact RZ.pyNext_zipT_end hh D hz st.ti hTO st.h1 st.h2 st.l1 st.l2 hend fun h' hk => hQ h' s.toks fun c o hc e => hk c o (fun x => hc (by simp [x])) (fun x => hc (by simp [x])) (fun x => hc (by simp [x])) (fun x => hc (by simp [x])) e
    · exact zipHeld_end hh D hz hT st.ti st.h1 st.h2 st.l1 st.l2 hend fun h' hk => hQ h' s.toks fun c o hc e => hk c o (fun x => hc (by simp [x])) (fun x => hc (by simp [x])) (fun x => hc (by simp [x])) e
theorem pairArg_zipT {z TI TO i1 i2 l1 l2 : Addr} (D : ZipApart z TI TO i1 i2 l1 l2) (xs ys : Array Value) :
    PairArg prog w "zip" z [z, TI, TO, i1, i2, l1, l2] [z, TO, i1, i2] (min xs.size ys.size) (fun i k v => xs[i]? = some k ∧ ys[i]? = some v)
      (fun h => IsZip h z TI TO .none ∧ IsPair h TI (.ref i1) (.ref i2) ∧ (∃ a b, IsPair h TO a b) ∧ h.IsTupleIter i1 l1 0 ∧ h.IsTupleIter i2 l2 0 ∧ h.IsTuple l1 xs ∧ h.IsTuple l2 ys) where
  type := fun s ok => ⟨_, ok.1, rfl⟩
  notDict := by decide
  keep := fun h h' ⟨hz, hTI, ⟨a, b, hTO⟩, h1, h2, hl1, hl2⟩ hk => ⟨hk _ _ hz, hk _ _ hTI, ⟨a, b, hk _ _ hTO⟩, h1.at fun o e => hk _ o e, h2.at fun o e => hk _ o e, hl1.at fun o e => hk _ o e, hl2.at fun o e => hk _ o e⟩
  there := fun h ⟨hz, hTI, ⟨a, c, hTO⟩, ⟨o1, h1, _⟩, ⟨o2, h2, _⟩, ⟨o3, hl1, _⟩, ⟨o4, hl2, _⟩⟩ b hb => by
    simp only [List.mem_cons, List.not_mem_nil, or_false] at hb
    rcases hb with rfl | rfl | rfl | rfl | rfl | rfl | rfl
    · exact ⟨_, hz⟩
    · exact ⟨_, hTI⟩
    · exact ⟨_, hTO⟩
    · exact ⟨_, h1⟩
    · exact ⟨_, h2⟩
    · exact ⟨_, hl1⟩
    · exact ⟨_, hl2⟩
  sub := fun b hb => by
    simp only [List.mem_cons, List.not_mem_nil, or_false] at hb ⊢
    rcases hb with h | h | h | h <;> simp [h]
  noKeys := fun A s Q E hA ok h => getAttrOr_miss_zip ok.1 rfl rfl rfl zip_no_keys (by decide +kernel) hA h
  iter := fun A s d Q E hA ⟨hz, hTI, ⟨a, b, hTO⟩, h1, h2, hl1, hl2⟩ hd hdf h =>
    wpAny_pyIter_zip hz (h z [z, TO, i1, i2] _ s.heap s.toks (zipT_src D hA fun b hb e => hdf (by rw [← e]; exact hb)) ⟨hTI, h1, h2, hl1, hl2, .inl ⟨hz, a, b, hTO⟩⟩ (fun _ _ e => e) fun b hb => .inl hb)
end
end DL
end DLE
section DLF
set_option Elab.async false
set_option linter.all false
set_option maxRecDepth 100000
set_option maxHeartbeats 1000000
/-! DLF: dict(zip(a tuple, a tuple)), dict(d), by values: text keys -/
namespace DL
open PySem PySem.Spec PyProof.Rows L2
def tDZip (K : PySem.W.Frag) (ta : TA) : TE := fun σ H Q => ta σ H fun vs H1 => ∃ (a b : Addr) (ks : List Key) (ys : List V), vs = [.ref a, .ref b] ∧ SqT K H1 a (ks.map kV) ∧ SqT K H1 b ys ∧ ks.length = ys.length ∧ ks.length ≤ 1000 ∧
  ∀ p, H1 p = none → Q (.ref p) (upd H1 p (.dK (mergeK [] (ks.zip ys))))
theorem kv_zip : ∀ {ks : List Key} {ys : List V} {us : List Value}, Vals ys us → KV (ks.zip ys) (ks.zip us)
  | [], _, _, _ => by simp only [List.zip_nil_left]; exact .nil
  | k :: ks, _, _, .nil => .nil
  | k :: ks, y :: ys, _, .cons h t => .cons ⟨rfl, h⟩ (kv_zip t)
theorem pe_dzip {X : Cx} {e e2 : Expr} {ta : TA} {x y : Str} {p p1 pos pos1 : Pos} (hx : x = ("dict" : Str)) (hy : y = ("zip" : Str)) (hc : X.calm = true) (hg : Gl X x) (hm : X.mg x = none) (hg1 : Gl X y) (hm1 : X.mg y = none) (ha : PA X [e, e2] ta)
    (hs : starEach [e, e2] X.env = (false, eval e X.env) :: starEach [e2] X.env := by rfl) (hpl : (backTo pos1 (starEach [e2] X.env)).any (·.1) = false := by rfl)
    (nb : starEach [.Call (.Name y p1) [e, e2] [] pos1] X.env = (false, eval (.Call (.Name y p1) [e, e2] [] pos1) X.env) :: starEach [] X.env := by rfl) :
    PE X (.Call (.Name x p) [.Call (.Name y p1) [e, e2] [] pos1] [] pos) (tDZip X.K ta) := by
  subst hx hy
  refine ⟨fun pins s σ H Q I h => ?_⟩
  refine Call_ (ld_blt I hg hm PyProof.Rows.boot_dict (PyProof.Rows.callWith_type1 (args_cons ?_ nb) nb))
  refine Call_ (ld_blt I hg1 hm1 PyProof.Rows.boot_zip (PyProof.Rows.callWith_type1 (thn (ha.run pos1 pins s σ H _ I h) fun us s1 ⟨vs, H1, I1, r1, q1⟩ => ?_) hs hpl))
  obtain ⟨a, b, ks, ys, ex, hqx, hqy, hl, hk1, q1⟩ := q1
  subst ex
  cases r1 with
  | cons r rr =>
    cases rr with
    | cons r' rr =>
      cases rr
      cases r
      cases r'
      obtain ⟨its, rv, t1, z1⟩ := I1.tuple hqx
      obtain ⟨its2, rv2, t2, z2⟩ := I1.tuple hqy
      obtain ⟨o1, ho1, _⟩ := id t1
      obtain ⟨o2, ho2, _⟩ := id t2
      have D := PySem.W.ktu_apart s1.heap.objs.size a b (Heap.lt_size ho1) (Heap.lt_size ho2)
      refine RZ.call_zipT (show s1.heap.IsTuple a its.toArray from t1) (show s1.heap.IsTuple b its2.toArray from t2) fun h' hz hTI hTO h1 h2 hsz hk => args_nil ?_
      have I2 : Inv X pins σ H1 { s1 with heap := h' } := I1.kept (t' := s1.toks) hk
      have e1 : its.length = ks.length := by rw [← rv.length, List.length_map]
      have e2 : its2.length = ys.length := rv2.length.symm
      have hP : PairsHave (mixKind X.prog X.w) (min its.toArray.size its2.toArray.size) (fun i k v => its.toArray[i]? = some k ∧ its2.toArray[i]? = some v) (ks.zip its2) := by
        refine ⟨by rw [List.length_zip]; simp; omega, fun i key v ⟨g1, g2⟩ => ?_⟩
        have g1 : its[i]? = some key := by simpa using g1
        have g2 : its2[i]? = some v := by simpa using g2
        have hi := (List.getElem?_eq_some_iff.mp g1).1
        have hik : i < ks.length := by omega
        refine ⟨ks[i], by rw [List.getElem?_zip_eq_some]; exact ⟨List.getElem?_eq_getElem hik, g2⟩, ?_⟩
        obtain ⟨u, hu, ru⟩ := rv.get (i := i) (x := kV ks[i]) (by rw [List.getElem?_map, List.getElem?_eq_getElem hik]; rfl)
        rw [g1] at hu
        cases hu
        exact kV_is ru
      refine PySem.call_dict_pairs (knd := mixKind X.prog X.w) (pairArg_zipT D its.toArray its2.toArray) (I2.ok.hd hc) ⟨hz, hTI, ⟨_, _, hTO⟩, h1, h2, (show s1.heap.IsTuple a its.toArray from t1).at fun o e => hk _ o e, (show s1.heap.IsTuple b its2.toArray from t2).at fun o e => hk _ o e⟩ hP ?_ fun h2' tk hd hk2 => ?_
      · have : min its.toArray.size its2.toArray.size ≤ 1000 := by simp; omega
        exact Nat.le_trans this (by decide)
      · have hkeep : ∀ b o, s1.heap.get? b = some o → h2'.get? b = some o := fun b o e => by
          have hlt := Heap.lt_size e
          refine hk2 b o (fun hm => ?_) (hk b o e)
          simp only [List.mem_cons, List.not_mem_nil, or_false] at hm
          have hlt : (b : Nat) < s1.heap.objs.size := hlt
          rcases hm with rfl | rfl | rfl | rfl
          · exact absurd hlt (Nat.not_lt.mpr (Nat.le_add_right _ _))
          · exact absurd hlt (Nat.not_lt.mpr (Nat.le_add_right _ _))
          · exact absurd hlt (Nat.lt_irrefl _)
          · exact absurd hlt (Nat.not_lt.mpr (Nat.le_add_right _ _))
        have hle : s1.heap.objs.size ≤ h'.objs.size := by omega
        have hbig : sysModules < h'.objs.size := I2.big
        have hm2 : (h'.objs.size == sysModules) = false := beq_eq_false_iff_ne.mpr (Nat.ne_of_gt hbig)
        have hlen : (mergeK [] (ks.zip ys)).length ≤ sizeLine := by
          refine Nat.le_trans (length_mergeK _ []) ?_
          rw [List.length_nil, Nat.zero_add, List.length_zip]
          exact Nat.le_trans (m := 1000) (by omega) (by decide)
        exact ⟨.ref h'.objs.size, upd H1 h'.objs.size (.dK (mergeK [] (ks.zip ys))), I1.laid (t' := tk) hkeep hle (show ObjOk X.prog X.w _ _ _ (.dK (mergeK [] (ks.zip ys))) from ⟨hlen, hm2, merged [] (ks.zip its2), KV.merge (kv_zip rv2) .nil, hd⟩), rfl, q1 _ (I1.hok.fresh hle)⟩
/-- dict(d) -/
theorem call_dcopy {X : Cx} : CallR X (.type "dict") (fun xs H Q => ∃ (a : Addr) (kvs : List (Key × V)), xs = [.ref a] ∧ Rd H a (.dK kvs) ∧ ∀ p, H p = none → Q (.ref p) (upd H p (.dK kvs))) := by
  rintro pins s σ H xs us Q I r ⟨a, kvs, rfl, e, q⟩
  obtain ⟨u, rfl, rx⟩ := vals1 r
  cases rx
  exact d_copyOf I e fun p s' hp I' => ⟨.ref p, _, I', rfl, q p hp⟩
end DL
end DLF
section DLG
set_option Elab.async false
set_option linter.all false
set_option maxRecDepth 100000
set_option maxHeartbeats 2000000
/-! DLG: the state while a dict with text keys is turned, its copies kept in a list, numbers in another list -/
namespace DL
open PySem PySem.Spec PyProof.Rows L2
/-- the dict, the numbers -/
structure Jg where
  kvs : List (Key × V)
  fn : Nat
  sp : List Nat
structure JS (P : Program) (w : World) (i j l : Nat) (a b c : Addr) (σ : L2.St) (H : Hp) (ρ : Sv) (γ : Jg) : Prop where
  rep : Rep P w H σ ρ
  no : NoOwn ρ
  ni : ρ[i]? = some none
  nj : ρ[j]? = some none
  nl : ρ[l]? = some none
  si : σ[i]? = some (some (.ref a))
  sj : σ[j]? = some (some (.ref b))
  sl : σ[l]? = some (some (.ref c))
  ha : H a = some (.dK γ.kvs)
  hb : ∃ vs, H b = some (.lst vs) ∧ vs.length = γ.fn
  hc : H c = some (.lst (γ.sp.map fun n => V.int (n : Nat)))
  ab : a ≠ b
  ac : a ≠ c
  bc : b ≠ c
abbrev SttJ := Sv → Jg → (Sv → Jg → Prop) → Prop
def rdJ (P : Program) (w : World) (i j l : Nat) (S : SttJ) : TS := fun D σ H => ∃ (a b c : Addr) (ρ : Sv) (γ : Jg) (R : Sv → Jg → Prop), JS P w i j l a b c σ H ρ γ ∧ S ρ γ R ∧
  ∀ ρ' γ' σ' H', R ρ' γ' → JS P w i j l a b c σ' H' ρ' γ' → KeepX (fun x => x = a ∨ x = b ∨ x = c) H H' → D.nx σ' H'
section
variable {P : Program} {w : World} {i j l : Nat} {a b c : Addr} {σ σ' : L2.St} {H H' : Hp} {ρ : Sv} {γ : Jg}
theorem JS.later (h : JS P w i j l a b c σ H ρ γ) (k : KeepT H H') : JS P w i j l a b c σ H' ρ γ where
  rep := h.rep.same fun b o e => k.keep b o e
  no := h.no
  ni := h.ni
  nj := h.nj
  nl := h.nl
  si := h.si
  sj := h.sj
  sl := h.sl
  ha := k.keep _ _ h.ha
  hb := let ⟨vs, e, q⟩ := h.hb; ⟨vs, k.keep _ _ e, q⟩
  hc := k.keep _ _ h.hc
  ab := h.ab
  ac := h.ac
  bc := h.bc
theorem JS.kpx (h : JS P w i j l a b c σ H ρ γ) (k : KeepX (fun x => x = a ∨ x = b ∨ x = c) H H') : Kp H H' := by
  obtain ⟨vs, hb, _⟩ := h.hb
  have ha := h.ha
  have hc := h.hc
  refine ⟨fun d xs e => k.keep d _ e ?_, fun d o u e => k.keep d _ e ?_⟩ <;>
  · rintro (rfl | rfl | rfl)
    · rw [ha] at e; cases e
    · rw [hb] at e; cases e
    · rw [hc] at e; cases e
/-- a slot of data stored -/
theorem JS.store (h : JS P w i j l a b c σ H ρ γ) {m : Nat} {v : V} {d : Dt} (hm : m < ρ.length) (mi : m ≠ i) (mj : m ≠ j) (ml : m ≠ l) (hv : Dtv P w H v d) : JS P w i j l a b c (σ.set m (some v)) H (ρ.set m (some (.dat d))) γ where
  rep := h.rep.store (Hs := H) (x := .dat d) hm hv rfl
  no := h.no.set m d
  ni := by rw [List.getElem?_set_ne mi]; exact h.ni
  nj := by rw [List.getElem?_set_ne mj]; exact h.nj
  nl := by rw [List.getElem?_set_ne ml]; exact h.nl
  si := by rw [List.getElem?_set_ne mi]; exact h.si
  sj := by rw [List.getElem?_set_ne mj]; exact h.sj
  sl := by rw [List.getElem?_set_ne ml]; exact h.sl
  ha := h.ha
  hb := h.hb
  hc := h.hc
  ab := h.ab
  ac := h.ac
  bc := h.bc
end
section
variable {X : Cx} {e : Expr} {sts rest : List Stmt} {st : Stmt} {E : Et} {T : Tt} {S S1 S2 : SttJ} {i j l m : Nat} {pos : Pos}
theorem psj_nil : PSs X [] (rdJ X.prog X.w i j l fun ρ γ R => R ρ γ) := PSs.imp pss_nil fun D σ H ⟨a, b, c, ρ, γ, R, h, q, t⟩ => t ρ γ σ H q h (KeepT.refl H).x
theorem psj_cons (h1 : PS X st (rdJ X.prog X.w i j l S1)) (h2 : PSs X rest (rdJ X.prog X.w i j l S2)) : PSs X (st :: rest) (rdJ X.prog X.w i j l fun ρ γ R => S1 ρ γ fun ρ1 γ1 => S2 ρ1 γ1 R) :=
  PSs.imp (pss_cons h1 h2) fun D σ H ⟨a, b, c, ρ, γ, R, h, q, t⟩ => ⟨a, b, c, ρ, γ, _, h, q, fun ρ1 γ1 σ1 H1 q1 h1 k1 => ⟨a, b, c, ρ1, γ1, R, h1, q1, fun ρ2 γ2 σ2 H2 q2 h2 k2 => t ρ2 γ2 σ2 H2 q2 h2 (k1.trans k2)⟩⟩
theorem psj_one (h1 : PS X st (rdJ X.prog X.w i j l S1)) : PSs X [st] (rdJ X.prog X.w i j l S1) := pss_one h1
/-- x = data -/
theorem psj_set {x : Str} {pos' : Pos} (hN : X.N.Nodup) (hi : X.N[m]? = some x) (hx : Loc X.env.scope x) (h : DE X e E) (mi : m ≠ i) (mj : m ≠ j) (ml : m ≠ l) (hs : swapsWith e (some (.Name x pos')) pos.line X.env = pure false := by rfl)
    (hf : X.fn x = true ∨ X.env.scope.names.lookup x = some .local := by first | exact .inl rfl | exact .inr rfl | assumption) :
    PS X (.Assign [.Name x pos'] e pos) (rdJ X.prog X.w i j l fun ρ γ R => E ρ fun x ρ1 => ρ1 = ρ ∧ m < ρ.length ∧ ∃ d, x = .dat d ∧ R (ρ.set m (some (.dat d))) γ) :=
  PS.imp (ps_set hN hi hx h hs hf) fun D σ H ⟨a, b, c, ρ, γ, R, hj, q, t⟩ => ⟨ρ, _, hj.rep, q, fun z H2 ⟨x, ρ2, ⟨e1, hm, d, e2, hR⟩, le, rep2, hx⟩ => by
    subst e1 e2
    have k := hj.no.keep le
    exact t _ _ _ _ hR ((hj.later k).store hm mi mj ml hx) k.x⟩
theorem psj_if (hc : DT X e T) (ha : PSs X sts (rdJ X.prog X.w i j l S1)) (hb : PSs X rest (rdJ X.prog X.w i j l S2)) : PS X (.If e sts rest pos) (rdJ X.prog X.w i j l fun ρ γ R => T ρ fun b ρ1 => ρ1 = ρ ∧ if b = true then S1 ρ γ R else S2 ρ γ R) := by
  refine PS.imp (ps_if hc ha hb) fun D σ H ⟨a, b, c, ρ, γ, R, hj, q, t⟩ => ⟨ρ, _, hj.rep, q, fun bb ρ2 H2 ⟨e1, q⟩ le rep2 => ?_⟩
  have e1 := e1.symm
  subst e1
  have k := hj.no.keep le
  cases bb with
  | true => exact iteT ⟨a, b, c, ρ, γ, R, hj.later k, by rw [if_pos rfl] at q; exact q, fun ρ' γ' σ' H' r h k2 => t ρ' γ' σ' H' r h (k.x.trans k2)⟩
  | false => exact iteF ⟨a, b, c, ρ, γ, R, hj.later k, by rw [if_neg Bool.false_ne_true] at q; exact q, fun ρ' γ' σ' H' r h k2 => t ρ' γ' σ' H' r h (k.x.trans k2)⟩
end
def forJ (G : Gt) (S : SttJ) : List PyData → Sv → Jg → (Sv → Jg → Prop) → Prop
  | [], ρ, γ, R => R ρ γ
  | d :: l, ρ, γ, R => G d ρ fun ρ1 => NoOwn ρ1 ∧ S ρ1 γ fun ρ2 γ2 => forJ G S l ρ2 γ2 R
section
variable {X : Cx} {tg iter e : Expr} {sts : List Stmt} {pos p1 : Pos} {W : Wt} {G : Gt} {S : SttJ} {gv : List Nat} {i j l : Nat}
theorem psj_for (hp : PassesOwn (model X.prog X.w) X.A X.env X.xe) (hc : X.calm = true) (hi : DI X tg iter W) (hg : DG X tg gv G) (gi : i ∉ gv) (gj : j ∉ gv) (gl : l ∉ gv) (hb : PSs X sts (rdJ X.prog X.w i j l S))
    (hs : ∀ x, foldedSetIterable iter X.env x = pure x := by intro _; rfl) : PS X (.For tg iter sts [] pos) (rdJ X.prog X.w i j l fun ρ γ R => W ρ fun ds ρ1 => ρ1 = ρ ∧ forJ (fun d ρ K => G d ρ fun ρ1 => ρ1[i]? = some none ∧ ρ1[j]? = some none ∧ ρ1[l]? = some none ∧ K ρ1) S ds ρ γ R) := by
  refine PS.imp (ps_for hp hc hi hg hb hs) fun D σ H ⟨a, b, c, ρ, γ, R, ns, hW, t⟩ => ⟨ρ, _, ns.rep, hW, fun ds ρ1 H1 J ⟨e1, hF⟩ le1 rep1 sz it => ?_⟩
  have e1 := e1.symm
  subst e1
  have k1 := ns.no.keep le1
  have n1 := ns.later k1
  refine ⟨fun q m σ' H' => m = ds.length - q ∧ q ≤ ds.length ∧ ∃ ρ' γ', JS X.prog X.w i j l a b c σ' H' ρ' γ' ∧ KeepX (fun x => x = a ∨ x = b ∨ x = c) H1 H' ∧ forJ _ S (ds.drop q) ρ' γ' R, ⟨ds.length, by omega, by omega, ρ, γ, n1, (KeepT.refl _).x, by simpa using hF⟩, ?_⟩
  rintro q m σ' H' ⟨rfl, hi, ρ', γ', ns', kx, hF'⟩
  have kp := n1.kpx kx
  by_cases hlt : q < ds.length
  · have hd : ds[q]? = some ds[q] := List.getElem?_eq_getElem hlt
    rw [List.drop_eq_getElem_cons hlt] at hF'
    obtain ⟨g1, g2⟩ := it.go q _ H' hd kp
    refine .inr ⟨g1, fun σ2 H2 => ∃ ρ2 γ2, JS X.prog X.w i j l a b c σ2 H2 ρ2 γ2 ∧ KeepX (fun x => x = a ∨ x = b ∨ x = c) H1 H2 ∧ forJ _ S (ds.drop (q + 1)) ρ2 γ2 R, fun σ2 H2 ⟨ρ2, γ2, a1, a2, a4⟩ => ⟨ds.length - (q + 1), by omega, rfl, hlt, ρ2, γ2, a1, a2, a4⟩, fun x H2 y => ?_⟩
    obtain ⟨s1, s2, hv⟩ := g2 x H2 y
    have ky : KeepT H' H2 := ⟨s1, s2⟩
    have ny := ns'.later ky
    refine ⟨ρ', ds[q], _, ny.rep, hv, hF', fun ρ3 σ3 H3 ⟨ni, nj, nl, no3, hS⟩ le3 rep3 off hl3 => ?_⟩
    have k3 := ny.no.keep le3
    have ny3 := ny.later k3
    have n3 : JS X.prog X.w i j l a b c σ3 H3 ρ3 γ' := ⟨rep3, no3, ni, nj, nl, (off i gi).trans ny.si, (off j gj).trans ny.sj, (off l gl).trans ny.sl, ny3.ha, ny3.hb, ny3.hc, ny3.ab, ny3.ac, ny3.bc⟩
    exact ⟨a, b, c, ρ3, γ', _, n3, hS, fun ρ4 γ4 σ4 H4 q n4 k4 => ⟨ρ4, γ4, n4, (kx.trans (ky.trans k3).x).trans k4, q⟩⟩
  · have e : q = ds.length := by omega
    subst e
    rw [List.drop_length] at hF'
    exact .inl ⟨it.stop H' kp, t ρ' γ' σ' H' hF' ns' (k1.x.trans kx)⟩
/-- found.append(dict(now)) -/
theorem psj_appCopy {x y z : Str} {p1 p2 p3 p4 p5 apos : Pos} {name : Str} (hn : name = "append") (hz : z = ("dict" : Str)) (hg : Gl X z) (hm : X.mg z = none) (hx : X.N[j]? = some x) (hy : X.N[i]? = some y) (vx : Vis X.env.scope x) (vy : Vis X.env.scope y)
    (q0 : (x == ("__debug__" : Str)) = false := by decide) (q1 : (y == ("__debug__" : Str)) = false := by decide) (r0 : (x == ("__classdict__" : Str)) = false := by decide) (r1 : (y == ("__classdict__" : Str)) = false := by decide)
    (hs1 : starEach [.Name y p3] X.env = (false, eval (.Name y p3) X.env) :: starEach [] X.env := by rfl)
    (hbase : attributeBase (.Name x p1) name X.env (eval (.Name x p1) X.env) = eval (.Name x p1) X.env := by rfl)
    (hfew : ((backTo p5 (starEach [.Call (.Name z p2) [.Name y p3] [] p4] X.env)).all (fun x => !x.1) && (backToKw p5 (keywordEach [] X.env)).all (fun x => x.1.isSome)
      && decide (([.Call (.Name z p2) [.Name y p3] [] p4] : List Expr).length + ([] : List Keyword).length + (if ([] : List Keyword).isEmpty then 0 else 1) < 30)) = true := by rfl)
    (hline : (apos.endLine == p5.line) = true := by rfl) (hs2 : starEach [.Call (.Name z p2) [.Name y p3] [] p4] X.env = (false, eval (.Call (.Name z p2) [.Name y p3] [] p4) X.env) :: starEach [] X.env := by rfl)
    (hsw : swapsWith (.Call (.Attribute (.Name x p1) name apos) [.Call (.Name z p2) [.Name y p3] [] p4] [] p5) none pos.line X.env = pure false := by rfl) :
    PS X (.Expr (.Call (.Attribute (.Name x p1) name apos) [.Call (.Name z p2) [.Name y p3] [] p4] [] p5) pos) (rdJ X.prog X.w i j l fun ρ γ R => γ.fn < 1000 ∧ R ρ ⟨γ.kvs, γ.fn + 1, γ.sp⟩) := by
  subst hn hz
  refine PS.imp (ps_expr (pe_bm PySem.F.plainAttrs_list PySem.F.slot_list_append PySem.F.type_list_append mt_append (pe_var hx vx q0 r0) (pa_cons (pe_callTy call_dcopy hg hm PyProof.Rows.boot_dict (pa_cons (pe_var hy vy q1 r1) pa_nil hs1) (by decide) (by decide) hs1) pa_nil hs2) hbase hfew hline hs2) hsw) fun D σ H ⟨a, b, c, ρ, γ, R, h, ⟨hf, hR⟩, t⟩ => ?_
  obtain ⟨vs, hb, hl⟩ := h.hb
  refine ⟨_, h.sj, .inl ⟨rfl, vs, .inl (.inl hb)⟩, _, h.si, a, γ.kvs, rfl, .inl h.ha, fun p hp => ?_⟩
  have kl : KeepT H (upd H p (.dK γ.kvs)) := .laid hp
  have h1 := h.later kl
  have hpb : b ≠ p := fun e => by rw [e, hp] at hb; cases hb
  have hb1 : (upd H p (.dK γ.kvs)) b = some (.lst vs) := by rw [upd_ne hpb]; exact hb
  have ku : Kp (upd H p (.dK γ.kvs)) (upd (upd H p (.dK γ.kvs)) b (.lst (vs ++ [.ref p]))) := kp_put (.inl ⟨_, hb1⟩)
  refine ⟨b, vs, _, rfl, rfl, hb1, Nat.lt_of_le_of_lt (Nat.le_of_eq hl) (Nat.lt_trans hf (by decide)), ?_⟩
  refine t ρ _ σ _ hR ⟨h1.rep.of ku fun x m => absurd m (h.no.emp x), h.no, h.ni, h.nj, h.nl, h.si, h.sj, h.sl, ?_, ⟨_, upd_same, ?_⟩, ?_, h.ab, h.ac, h.bc⟩ ⟨fun x o e n => ?_, fun x e => ?_⟩
  · rw [upd_ne h.ab]; exact h1.ha
  · rw [List.length_append, hl]; rfl
  · rw [upd_ne (Ne.symm h.bc)]; exact h1.hc
  · rw [upd_ne fun z => n (.inr (.inl z))]; exact kl.keep _ _ e
  · by_cases hx : x = b
    · rw [hx, upd_same] at e; cases e
    · rw [upd_ne hx] at e; exact kl.trk _ e
/-- spares.append(n) -/
theorem psj_appInt {m : Nat} {x y : Str} {p1 p3 p5 apos : Pos} {name : Str} (hn : name = "append") (hx : X.N[l]? = some x) (hy : X.N[m]? = some y) (vx : Vis X.env.scope x) (vy : Vis X.env.scope y)
    (q0 : (x == ("__debug__" : Str)) = false := by decide) (q1 : (y == ("__debug__" : Str)) = false := by decide) (r0 : (x == ("__classdict__" : Str)) = false := by decide) (r1 : (y == ("__classdict__" : Str)) = false := by decide)
    (hs1 : starEach [.Name y p3] X.env = (false, eval (.Name y p3) X.env) :: starEach [] X.env := by rfl)
    (hbase : attributeBase (.Name x p1) name X.env (eval (.Name x p1) X.env) = eval (.Name x p1) X.env := by rfl)
    (hfew : ((backTo p5 (starEach [.Name y p3] X.env)).all (fun x => !x.1) && (backToKw p5 (keywordEach [] X.env)).all (fun x => x.1.isSome)
      && decide (([.Name y p3] : List Expr).length + ([] : List Keyword).length + (if ([] : List Keyword).isEmpty then 0 else 1) < 30)) = true := by rfl)
    (hline : (apos.endLine == p5.line) = true := by rfl)
    (hsw : swapsWith (.Call (.Attribute (.Name x p1) name apos) [.Name y p3] [] p5) none pos.line X.env = pure false := by rfl) :
    PS X (.Expr (.Call (.Attribute (.Name x p1) name apos) [.Name y p3] [] p5) pos) (rdJ X.prog X.w i j l fun ρ γ R => γ.sp.length < 1000 ∧ ∃ n : Nat, ρ[m]? = some (some (.dat (.d (.int (n : Nat))))) ∧ R ρ ⟨γ.kvs, γ.fn, γ.sp ++ [n]⟩) := by
  subst hn
  refine PS.imp (ps_expr (pe_bm PySem.F.plainAttrs_list PySem.F.slot_list_append PySem.F.type_list_append mt_append (pe_var hx vx q0 r0) (pa_cons (pe_var hy vy q1 r1) pa_nil hs1) hbase hfew hline hs1) hsw) fun D σ H ⟨a, b, c, ρ, γ, R, h, ⟨hf, n, hm, hR⟩, t⟩ => ?_
  obtain ⟨v, hv, hd⟩ := h.rep.dat m _ hm
  have hd : Dv H v (.int (n : Nat)) := hd
  cases hd
  refine ⟨_, h.sl, .inl ⟨rfl, _, .inl (.inl h.hc)⟩, _, hv, c, _, _, rfl, rfl, h.hc, ?_, ?_⟩
  · rw [List.length_map]; exact Nat.lt_trans hf (by decide)
  have ku : Kp H (upd H c (.lst (γ.sp.map (fun n => V.int (n : Nat)) ++ [V.int (n : Nat)]))) := kp_put (.inl ⟨_, h.hc⟩)
  refine t ρ _ σ _ hR ⟨h.rep.of ku fun x m => absurd m (h.no.emp x), h.no, h.ni, h.nj, h.nl, h.si, h.sj, h.sl, ?_, ?_, ?_, h.ab, h.ac, h.bc⟩ ⟨fun x o e nn => ?_, fun x e => ?_⟩
  · rw [upd_ne h.ac]; exact h.ha
  · obtain ⟨vs, e, q⟩ := h.hb
    exact ⟨vs, by rw [upd_ne h.bc]; exact e, q⟩
  · rw [upd_same, List.map_append]; rfl
  · rw [upd_ne fun z => nn (.inr (.inr z))]; exact e
  · by_cases hx : x = c
    · rw [hx, upd_same] at e; cases e
    · rw [upd_ne hx] at e; exact e
/-- d[k] = v, text or number keys -/
def rSetK : TSet := fun o i v H Q => ∃ a H', o = .ref a ∧ DPut H a i v H' ∧ Q H'
theorem set_K (hu : X.A.units + 1 < cLine) : PSet X rSetK := by
  rintro pins s σ H o i v ov iv u Q I ro ri rv ⟨a, H', rfl, hp, q⟩
  obtain rfl : ov = .ref a := ro
  exact d_setItem hu I hp ri rv fun s' I' => ⟨H', I', q⟩
/-- now[service], free = free, now[service] -/
theorem psj_swap {m n : Nat} {x y z : Str} {p1 p3 p4 p5 p6 p7 p8 p9 pt pt2 : Pos} {kt k2 : Nat} (hu : X.A.units + 1 < cLine) (hc : X.calm = true) (hN : X.N.Nodup) (hx : X.N[i]? = some x) (hy : X.N[m]? = some y) (hz : X.N[n]? = some z) (vx : Vis X.env.scope x) (vy : Vis X.env.scope y) (vz : Vis X.env.scope z) (ly : Loc X.env.scope y) (mi : m ≠ i) (mj : m ≠ j) (ml : m ≠ l)
    (hf : X.fn y = true ∨ X.env.scope.names.lookup y = some .local := by first | exact .inl rfl | exact .inr rfl | assumption)
    (q0 : (x == ("__debug__" : Str)) = false := by decide) (q1 : (y == ("__debug__" : Str)) = false := by decide) (q2 : (z == ("__debug__" : Str)) = false := by decide)
    (r0 : (x == ("__classdict__" : Str)) = false := by decide) (r1 : (y == ("__classdict__" : Str)) = false := by decide) (r2 : (z == ("__classdict__" : Str)) = false := by decide)
    (nsl : NoSl (.Name z p8) := by exact fun _ _ => rfl)
    (hse : starEach [.Name y p6, .Subscript (.Name x p7) (.Name z p8) p9] X.env = (false, eval (.Name y p6) X.env) :: starEach [.Subscript (.Name x p7) (.Name z p8) p9] X.env := by rfl)
    (hse2 : starEach [.Subscript (.Name x p7) (.Name z p8) p9] X.env = (false, eval (.Subscript (.Name x p7) (.Name z p8) p9) X.env) :: starEach [] X.env := by rfl)
    (ha : ∀ v, assign (.Subscript (.Name x p1) (.Name z p3) p5) X.env v = (do let ov ← holding [v] (eval (.Name x p1) X.env); let iv ← holding [v, ov] (eval (.Name z p3) X.env); standAt p5; holding [v, ov, iv] (setItem ov iv v); release [v, ov, iv] []) := by intro _; rfl)
    (s1 : (assignEach [.Subscript (.Name x p1) (.Name z p3) p5, .Name y p4] X.env).map (·.2) = assign (.Subscript (.Name x p1) (.Name z p3) p5) X.env :: (assignEach [.Name y p4] X.env).map (·.2) := by rfl)
    (s2 : (assignEach [.Name y p4] X.env).map (·.2) = assign (.Name y p4) X.env :: (assignEach [] X.env).map (·.2) := by rfl)
    (hn : (assignEach [.Subscript (.Name x p1) (.Name z p3) p5, .Name y p4] X.env).length = 2 := by rfl) (hst : (assignEach [.Subscript (.Name x p1) (.Name z p3) p5, .Name y p4] X.env).findIdx? (·.1) = none := by rfl)
    (hs : swapsWithSole [.Tuple [.Subscript (.Name x p1) (.Name z p3) p5, .Name y p4] kt pt] (.Tuple [.Name y p6, .Subscript (.Name x p7) (.Name z p8) p9] k2 pt2) pos.line X.env = pure false := by rfl)
    (hw : swappedStores [.Tuple [.Subscript (.Name x p1) (.Name z p3) p5, .Name y p4] kt pt] (.Tuple [.Name y p6, .Subscript (.Name x p7) (.Name z p8) p9] k2 pt2) X.env = pure none := by rfl)
    (h1 : (assignEach [.Tuple [.Subscript (.Name x p1) (.Name z p3) p5, .Name y p4] kt pt] X.env).map (·.2) = [assign (.Tuple [.Subscript (.Name x p1) (.Name z p3) p5, .Name y p4] kt pt) X.env] := by rfl) :
    PS X (.Assign [.Tuple [.Subscript (.Name x p1) (.Name z p3) p5, .Name y p4] kt pt] (.Tuple [.Name y p6, .Subscript (.Name x p7) (.Name z p8) p9] k2 pt2) pos) (rdJ X.prog X.w i j l fun ρ γ R => ∃ (f g : Nat) (s : Str), ρ[m]? = some (some (.dat (.d (.int (f : Nat))))) ∧ ρ[n]? = some (some (.dat (.d (.str s)))) ∧ valV γ.kvs (.inr s) = some (.int (g : Nat)) ∧ γ.kvs.length < 1000 ∧
      R (ρ.set m (some (.dat (.d (.int (g : Nat)))))) ⟨putK γ.kvs (.inr s) (.int (f : Nat)), γ.fn, γ.sp⟩) := by
  refine PS.imp (ps_asg (pe_tup (pa_cons (pe_var hy vy q1 r1) (pa_cons (pe_dget hu (pe_var hx vx q0 r0) (pe_var hz vz q2 r2) nsl) pa_nil hse2) hse)) (pg_tup hc (pgs_cons (pg_sub (pe_var hx vx q0 r0) (pe_var hz vz q2 r2) (set_K hu) ha) (pgs_cons (pg_name hN hy ly hf) pgs_nil s2) s1) hn hst) hs hw h1) fun D σ H ⟨a, b, c, ρ, γ, R, h, ⟨f, g, s, hm, hnn, hv, hl, hR⟩, t⟩ => ?_
  obtain ⟨vf, sf, hd⟩ := h.rep.dat m _ hm
  obtain ⟨vs, ss, hds⟩ := h.rep.dat n _ hnn
  have hd : Dv H vf (.int (f : Nat)) := hd
  have hds : Dv H vs (.str s) := hds
  cases hd
  cases hds
  refine ⟨_, sf, _, h.si, _, ss, a, .int (g : Nat), rfl, .inl ⟨γ.kvs, .inr s, .inl h.ha, rfl, hv.symm⟩, ?_⟩
  refine ⟨small30 (show 2 ≤ 30 by decide), fun p hp => ⟨p, _, rfl, .inl (.inl upd_same), rfl, ?_⟩⟩
  have kl : KeepT H (upd H p (.tup [.int (f : Nat), .int (g : Nat)])) := .laid hp
  have h1 := h.later kl
  have hap : H a ≠ none := by rw [h.ha]; simp
  refine ⟨_, _, rfl, _, h.si, _, ss, a, _, rfl, .inl ⟨γ.kvs, .inr s, h1.ha, rfl, Nat.lt_trans hl (by decide), rfl⟩, _, _, rfl, ?_⟩
  have hml : m < ρ.length := (List.getElem?_eq_some_iff.mp hm).1
  generalize hH : upd H p (.tup [.int (f : Nat), .int (g : Nat)]) = H1 at h1 kl
  have ku : Kp H1 (upd H1 a (.dK (putK γ.kvs (.inr s) (.int (f : Nat))))) := ⟨fun x xs e => ?_, fun x o u e => ?_⟩
  · have h2 : JS X.prog X.w i j l a b c σ (upd H1 a (.dK (putK γ.kvs (.inr s) (.int (f : Nat))))) ρ ⟨putK γ.kvs (.inr s) (.int (f : Nat)), γ.fn, γ.sp⟩ := by
      refine ⟨h1.rep.of ku fun x m => absurd m (h.no.emp x), h.no, h.ni, h.nj, h.nl, h.si, h.sj, h.sl, upd_same, ?_, ?_, h.ab, h.ac, h.bc⟩
      · obtain ⟨vs, e, q⟩ := h1.hb
        exact ⟨vs, by rw [upd_ne (Ne.symm h.ab)]; exact e, q⟩
      · rw [upd_ne (Ne.symm h.ac)]; exact h1.hc
    refine ⟨rfl, t _ _ _ _ hR (h2.store hml mi mj ml (.int (g : Nat))) ⟨fun x o e n => ?_, fun x e => ?_⟩⟩
    · rw [upd_ne fun z => n (.inl z)]; exact kl.keep _ _ e
    · by_cases hx : x = a
      · rw [hx, upd_same] at e; cases e
      · rw [upd_ne hx] at e; exact kl.trk _ e
  · rw [upd_ne fun z => by rw [z, h1.ha] at e; cases e]; exact e
  · rw [upd_ne fun z => by rw [z, h1.ha] at e; cases e]; exact e
theorem dv_strs {H : Hp} : ∀ {vs : List V} {l : List Str}, DvAll H vs (l.map .str) → vs = l.map V.str
  | _, [], h => by cases h; rfl
  | _, x :: l, h => by
    rw [List.map_cons] at h
    cases h with
    | cons a t =>
      cases a
      rw [dv_strs t]; rfl
theorem dv_nats {H : Hp} : ∀ {vs : List V} {l : List Nat}, DvAll H vs (l.map fun n => PyData.int (n : Nat)) → vs = l.map fun n => V.int (n : Nat)
  | _, [], h => by cases h; rfl
  | _, x :: l, h => by
    rw [List.map_cons] at h
    cases h with
    | cons a t =>
      cases a
      rw [dv_nats t]; rfl
theorem dv_tup {H : Hp} {v : V} {ds : List PyData} (h : Dv H v (.tuple ds)) : ∃ a vs, v = .ref a ∧ H a = some (.tup vs) ∧ DvAll H vs ds := by
  cases h with
  | tup h1 h2 => exact ⟨_, _, rfl, h1, h2⟩
/-- now, found, spares = dict(zip(.., ..)), [], [] -/
def tInitJ (P : Program) (w : World) (i j l : Nat) (E1 E2 : Et) : TS := fun D σ H => ∃ (ρ : Sv) (names : List Str) (pl : List Nat), Rep P w H σ ρ ∧ NoOwn ρ ∧ i < ρ.length ∧ j < ρ.length ∧ l < ρ.length ∧ ρ[i]? = some none ∧ ρ[j]? = some none ∧ ρ[l]? = some none ∧
  (∀ R : Dx → Sv → Prop, R (.dat (.d (.tuple (names.map .str)))) ρ → E1 ρ R) ∧ (∀ R : Dx → Sv → Prop, R (.dat (.d (.tuple (pl.map fun n => PyData.int (n : Nat))))) ρ → E2 ρ R) ∧ names.length = pl.length ∧ names.length ≤ 1000 ∧
  ∀ a b c σ' H', JS P w i j l a b c σ' H' ρ ⟨mergeK [] ((names.map Sum.inr).zip (pl.map fun n => V.int (n : Nat))), 0, []⟩ → KeepT H H' → (∀ x, x = a ∨ x = b ∨ x = c → H x = none) → D.nx σ' H'
theorem Rep.setNone {P : Program} {w : World} {H : Hp} {σ : L2.St} {ρ : Sv} (R : Rep P w H σ ρ) {q : Nat} (hq : ρ[q]? = some none) (v : Option V) : Rep P w H (σ.set q v) ρ := by
  have ne : ∀ {m : Nat} {c : Cell}, ρ[m]? = some (some c) → q ≠ m := fun {m c} e z => by
    subst z
    rw [hq] at e; cases e
  have g : ∀ {m : Nat} {c : Cell}, ρ[m]? = some (some c) → (σ.set q v)[m]? = σ[m]? := fun e => List.getElem?_set_ne (ne e)
  refine ⟨by rw [List.length_set]; exact R.len, fun m d e => ?_, fun m c e ho => ?_, fun m m' c c' a e1 o1 e2 o2 s1 s2 => ?_⟩
  · rw [g e]; exact R.dat m d e
  · rw [g e]; exact R.own m c e ho
  · rw [g e1] at s1
    rw [g e2] at s2
    exact R.ne m m' c c' a e1 o1 e2 o2 s1 s2
theorem psj_init {x y z xd xz : Str} {e1 e2 : Expr} {E1 E2 : Et} {px py pz pt pos p p1 pos1 pos2 q1 q2 : Pos} {kt k2 pt2} (hxd : xd = ("dict" : Str)) (hxz : xz = ("zip" : Str)) (hc : X.calm = true) (hN : X.N.Nodup) (hi : X.N[i]? = some x) (hj : X.N[j]? = some y) (hl : X.N[l]? = some z) (hij : i ≠ j) (hil : i ≠ l) (hjl : j ≠ l)
    (hx : X.env.scope.names.lookup x = some .local) (hy : X.env.scope.names.lookup y = some .local) (hz : X.env.scope.names.lookup z = some .local)
    (hg : Gl X xd) (hm : X.mg xd = none) (hg1 : Gl X xz) (hm1 : X.mg xz = none) (h1 : DE X e1 E1) (h2 : DE X e2 E2)
    (hs1 : starEach [e1, e2] X.env = (false, eval e1 X.env) :: starEach [e2] X.env := by rfl) (hs2 : starEach [e2] X.env = (false, eval e2 X.env) :: starEach [] X.env := by rfl) (hpl : (backTo pos1 (starEach [e2] X.env)).any (·.1) = false := by rfl)
    (nb : starEach [.Call (.Name xz p1) [e1, e2] [] pos1] X.env = (false, eval (.Call (.Name xz p1) [e1, e2] [] pos1) X.env) :: starEach [] X.env := by rfl)
    (n1 : starEach [.Call (.Name xd p) [.Call (.Name xz p1) [e1, e2] [] pos1] [] pos2, .List [] q1, .List [] q2] X.env = (false, eval (.Call (.Name xd p) [.Call (.Name xz p1) [e1, e2] [] pos1] [] pos2) X.env) :: starEach [.List [] q1, .List [] q2] X.env := by rfl)
    (n2 : starEach [.List [] q1, .List [] q2] X.env = (false, eval (.List [] q1) X.env) :: starEach [.List [] q2] X.env := by rfl) (n3 : starEach [.List [] q2] X.env = (false, eval (.List [] q2) X.env) :: starEach [] X.env := by rfl)
    (hw : swappedStores [.Tuple [.Name x px, .Name y py, .Name z pz] kt pt] (.Tuple [.Call (.Name xd p) [.Call (.Name xz p1) [e1, e2] [] pos1] [] pos2, .List [] q1, .List [] q2] k2 pt2) X.env = pure (some [x, y, z]) := by rfl)
    (hs : swapsWithSole [.Tuple [.Name x px, .Name y py, .Name z pz] kt pt] (.Tuple [.Call (.Name xd p) [.Call (.Name xz p1) [e1, e2] [] pos1] [] pos2, .List [] q1, .List [] q2] k2 pt2) pos.line X.env = pure false := by rfl) :
    PS X (.Assign [.Tuple [.Name x px, .Name y py, .Name z pz] kt pt] (.Tuple [.Call (.Name xd p) [.Call (.Name xz p1) [e1, e2] [] pos1] [] pos2, .List [] q1, .List [] q2] k2 pt2) pos) (tInitJ X.prog X.w i j l E1 E2) := by
  refine PS.imp (ps_par3 hc hN hi hj hl hij hil hjl hx hy hz (pa_cons (pe_dzip hxd hxz hc hg hm hg1 hm1 (pa_cons h1 (pa_cons h2 pa_nil hs2) hs1) hs1 hpl nb) (pa_cons (pe_lst pa_nil) (pa_cons (pe_lst pa_nil) pa_nil n3) n2) n1) hw hs) fun D σ H ⟨ρ, names, pl, rep, no, li, lj, ll, ni, nj, nl, hE1, hE2, hlen, hl1, t⟩ => ?_
  refine ⟨ρ, fun x ρ' => x = .dat (.d (.tuple (names.map .str))) ∧ ρ' = ρ, rep, hE1 _ ⟨rfl, rfl⟩, fun v1 H1 ⟨x1, ρ1, ⟨e1, e2⟩, le1, rep1, hv1⟩ => ?_⟩
  subst e1 e2
  refine ⟨ρ1, fun x ρ' => x = .dat (.d (.tuple (pl.map fun n => PyData.int (n : Nat)))) ∧ ρ' = ρ1, rep1, hE2 _ ⟨rfl, rfl⟩, fun v2 H2 ⟨x2, ρ2, ⟨e1, e2⟩, le2, rep2, hv2⟩ => ?_⟩
  subst e1 e2
  have k1 := no.keep le1
  have k2 := no.keep le2
  obtain ⟨a1, vs1, rfl, ha1, hd1⟩ := dv_tup (show Dv H2 v1 _ from Dv.keep k2.kp hv1)
  obtain ⟨a2, vs2, rfl, ha2, hd2⟩ := dv_tup (show Dv H2 v2 _ from hv2)
  have f1 := dv_strs hd1
  have f2 := dv_nats hd2
  subst f1 f2
  have em : (names.map (Sum.inr : Str → Key)).map kV = names.map V.str := by rw [List.map_map]; rfl
  refine ⟨a1, a2, names.map Sum.inr, pl.map fun n => V.int (n : Nat), rfl, .inl (.inl (by rw [em]; exact ha1)), .inl (.inl ha2), by rw [List.length_map, List.length_map]; exact hlen, by rw [List.length_map]; exact hl1, fun p hp => ⟨Nat.zero_le _, fun p2 hp2 => ⟨Nat.zero_le _, fun p3 hp3 => ⟨_, _, _, rfl, ?_⟩⟩⟩⟩
  have g1 : KeepT H2 (upd H2 p (.dK (mergeK [] ((names.map Sum.inr).zip (pl.map fun n => V.int (n : Nat)))))) := .laid hp
  have g2 := KeepT.laid (o := .lst []) hp2
  have g3 := KeepT.laid (o := .lst []) hp3
  have kall := ((k1.trans k2).trans g1).trans (g2.trans g3)
  have np : p ≠ p2 := fun e => by rw [← e, upd_same] at hp2; cases hp2
  have np3 : p ≠ p3 := by
    rintro rfl
    have := g2.keep _ _ (show (upd H2 p _) p = some _ from upd_same)
    rw [this] at hp3; cases hp3
  have np23 : p2 ≠ p3 := by
    rintro rfl
    rw [upd_same] at hp3; cases hp3
  refine t p p2 p3 _ _ ?_ kall fun x hx => ?_
  · have hlen1 := rep.len
    have sg : ∀ {q : Nat} {v : V}, q < ρ2.length → (σ.set q (some v))[q]? = some (some v) := fun h => List.getElem?_set_self (by rw [hlen1]; exact h)
    refine ⟨?_, no, ni, nj, nl, ?_, ?_, ?_, ?_, ⟨[], ?_, rfl⟩, upd_same, np, np3, np23⟩
    · exact (((rep.same fun b o e => kall.keep b o e).setNone ni _).setNone nj _).setNone nl _
    · rw [List.getElem?_set_ne (Ne.symm hil), List.getElem?_set_ne (Ne.symm hij)]; exact sg li
    · rw [List.getElem?_set_ne (Ne.symm hjl)]; exact List.getElem?_set_self (by rw [List.length_set, hlen1]; exact lj)
    · exact List.getElem?_set_self (by rw [List.length_set, List.length_set, hlen1]; exact ll)
    · rw [upd_ne np3, upd_ne np, upd_same]
    · rw [upd_ne np23, upd_same]
  · rcases hx with rfl | rfl | rfl
    · exact (k1.trans k2).trk _ hp
    · exact ((k1.trans k2).trans g1).trk _ hp2
    · exact (((k1.trans k2).trans g1).trans g2).trk _ hp3
/-- return found, spares -/
def tRetJ (P : Program) (w : World) (i j l : Nat) : TS := fun D σ H => ∃ (a b c : Addr) (ρ : Sv) (γ : Jg), JS P w i j l a b c σ H ρ γ ∧
  ∀ (t : Addr) (x : V) (H' : Hp), H' t = some (.tup [x, .ref c]) → Dv H' (.ref c) (.list (γ.sp.map fun n => PyData.int (n : Nat))) → KeepX (fun x => x = a ∨ x = b ∨ x = c) H H' → D.rt (.ref t) H'
theorem nats_dv {H : Hp} : ∀ (l : List Nat), DvAll H (l.map fun n => V.int (n : Nat)) (l.map fun n => PyData.int (n : Nat))
  | [] => .nil
  | x :: l => .cons (.int _) (nats_dv l)
theorem psj_ret {y z : Str} {p1 p2 pt : Pos} {kt : Nat} (hj : X.N[j]? = some y) (hl : X.N[l]? = some z) (vy : Vis X.env.scope y) (vz : Vis X.env.scope z)
    (q1 : (y == ("__debug__" : Str)) = false := by decide) (q2 : (z == ("__debug__" : Str)) = false := by decide) (r1 : (y == ("__classdict__" : Str)) = false := by decide) (r2 : (z == ("__classdict__" : Str)) = false := by decide)
    (hs1 : starEach [.Name y p1, .Name z p2] X.env = (false, eval (.Name y p1) X.env) :: starEach [.Name z p2] X.env := by rfl) (hs2 : starEach [.Name z p2] X.env = (false, eval (.Name z p2) X.env) :: starEach [] X.env := by rfl) :
    PS X (.Return (some (.Tuple [.Name y p1, .Name z p2] kt pt)) pos) (tRetJ X.prog X.w i j l) := by
  refine ⟨fun pins s σ H D I ⟨a, b, c, ρ, γ, h, t⟩ => ?_⟩
  refine wpAny_Return_some (thn ((pe_tup (pa_cons (pe_var hj vy q1 r1) (pa_cons (pe_var hl vz q2 r2) pa_nil hs2) hs1)).run pins s σ H (fun v H1 => ∃ p, v = .ref p ∧ H p = none ∧ H1 = upd H p (.tup [.ref b, .ref c])) I ⟨_, h.sj, _, h.sl, small30 (show 2 ≤ 30 by decide), fun p hp => ⟨p, rfl, hp, rfl⟩⟩) fun v s1 ⟨z, H1, I1, r1, p, e1, hp, e2⟩ => ?_)
  subst e1 e2
  have k1 : KeepT H (upd H p (.tup [.ref b, .ref c])) := .laid hp
  have hc := k1.keep _ _ h.hc
  obtain ⟨od, I2⟩ := I1.lock hc True.intro
  have kp2 : Kp (upd H p (.tup [.ref b, .ref c])) (upd (upd H p (.tup [.ref b, .ref c])) c (.frz od (.lst (γ.sp.map fun n => V.int (n : Nat))))) := kp_put (.inl ⟨_, hc⟩)
  have hpc : p ≠ c := by
    rintro rfl
    rw [h.hc] at hp; cases hp
  refine ⟨.ref p, σ, _, I2, r1, t p (.ref b) _ ?_ ?_ ⟨fun x o e n => ?_, fun x e => ?_⟩⟩
  · rw [upd_ne hpc, upd_same]
  · exact Dv.lst upd_same (nats_dv _)
  · rw [upd_ne fun z => n (.inr (.inr z))]; exact k1.keep _ _ e
  · by_cases hx : x = c
    · rw [hx, upd_same] at e; cases e
    · rw [upd_ne hx] at e; exact k1.trk _ e
end
end DL
end DLG
section DLH
set_option Elab.async false
set_option linter.all false
set_option maxRecDepth 100000
set_option maxHeartbeats 1000000
/-! DLH: a def that answers a pair, a list of numbers its second; f(..)[1] -/
namespace DL
open PySem PySem.Spec PyProof.Rows L2
abbrev PrT := List Dt → (PyData → Prop) → Prop
def spT (P : Program) (w : World) (n : Nat) (F : PrT) : Sp := fun vs H Q _ => ∃ ds R, DtAll P w H vs ds ∧ ds.length = n ∧ F ds R ∧
  ∀ d t x y H', R d → Same H H' → (∀ b, H' b = none → H b = none) → H' t = some (.tup [x, y]) → Dv H' y d → Q (.ref t) H'
structure CalT (P : Program) (w : World) (K : PySem.W.Frag) (mg : Str → Option Value) (base : Heap) (k : Nat) (x : Str) (n : Nat) (F : PrT) : Prop where
  len : ∀ ds R, F ds R → ds.length = n
  ex : ∃ (f : Addr) (fd : FuncData) (ps : List Str), mg x = some (.ref f) ∧ PySem.W.keepIn K (.ref f) = true ∧ Binds K fd ps [] ∧ FnG P w K mg base CX0 k f fd ps (spT P w n F)
theorem CalT.mono {P : Program} {w : World} {K : PySem.W.Frag} {mg : Str → Option Value} {base : Heap} {j k : Nat} {x : Str} {n : Nat} {F : PrT} (c : CalT P w K mg base j x n F) (h : j ≤ k) : CalT P w K mg base k x n F :=
  let ⟨f, fd, ps, h1, h2, h3, h4⟩ := c.ex; ⟨c.len, f, fd, ps, h1, h2, h3, h4.mono h⟩
def eFnT1 (A : At) (F : PrT) : Et := fun ρ Q => A ρ fun xs ρ1 => ∃ ds, dts xs = some ds ∧ F ds fun d => Q (.dat (.d d)) ρ1
section
variable {X : Cx} {k j n : Nat} {x : Str} {p pos pos2 : Pos} {e o : Expr} {es : List Expr} {A : At} {F : PrT}
theorem de_fnT1 (C : CalT X.prog X.w X.K X.mg X.base k x n F) (hr : RoomG j X.A) (hkj : k ≤ j) (hg : Gl X x) (ha : DA X (e :: es) A) (ho : DE X o (eC (.int 1))) (hs : PlainIx o := by exact fun _ _ => rfl) (hdb : (x == ("__debug__" : Str)) = false := by decide)
    (he : starEach (e :: es) X.env = (false, eval e X.env) :: starEach es X.env := by rfl) (hpl : (backTo pos (starEach es X.env)).any (·.1) = false := by rfl) : DE X (.Subscript (.Call (.Name x p) (e :: es) [] pos) o pos2) (eFnT1 A F) := by
  obtain ⟨f, fd, ps, h1, h2, h3, h4⟩ := C.ex
  refine PE.imp (pe_ix ix_seq (pe_callG (h4.mono hkj) hr hg h1 h2 h3 pass0 ha hdb he hpl) ho hs) fun σ H Q ⟨ρ, R, rep, hA, q⟩ => ?_
  refine ⟨ρ, _, rep, hA, fun vs H2 xs ρ2 ⟨ds, hd, hF⟩ le rep2 hx => ?_⟩
  have hv := dts_all hx hd
  refine ⟨ds, _, hv, C.len _ _ hF, hF, fun d t x y H' hR hs ht h0 hdv => ?_⟩
  have rep3 := rep2.same hs
  refine ⟨ρ2, fun x ρ' => x = .dat (.d (.int 1)) ∧ ρ' = ρ2, rep3, ⟨rfl, rfl⟩, fun z H3 ⟨xx, ρ3, ⟨e1, e2⟩, le3, rep4, hz⟩ => ?_⟩
  subst e1 e2
  have hz : Dv H3 z (.int 1) := hz
  cases hz
  have k3 := rep3.kp le3
  refine .inr (.inl ⟨t, [x, y], 1, y, rfl, rfl, .inl (.inl (k3.tup _ _ h0)), rfl, q _ _ ⟨.dat (.d d), ρ3, hR, ?_, rep4, hdv.keep k3⟩⟩)
  exact (le.trans ⟨fun b o e _ => hs b o e, ht, fun b m => .inl m⟩).trans le3
end
section
variable {P : Program} {w : World} {K : PySem.W.Frag} {mg : Str → Option Value} {base : Heap} {H : Hp}
theorem calT_raw {x qual : Str} {st : Stmt} {f : Addr} {fd : FuncData} {N ps : List Str} {k n : Nat} {Fp : PrT} (F : Fun K x qual st f fd) (gx : mg x = some (.ref f)) (b : Binds K fd ps []) (S : FnScope N ps (defScope st)) (hn : ps.length = n)
    (len : ∀ ds R, Fp ds R → ds.length = n)
    (hbody : ∀ (cdv : Value) (A : Around) (outer : List Env) (s : Shared) (H : Hp) (E : XK), RoomG k (A.deeper (envOfC qual (defScope st) s.heap.objs.size f cdv)) →
      ∃ t, PSs (Cb P w K mg base N qual st f cdv A outer s H E) (defBody st) t ∧ ∀ ds R, Fp ds R → ∀ vs (H : Hp) (Q : VK), Rep P w H (L2.start N vs) (startD N ds) →
        (∀ d t x y H', R d → KeepT H H' → H' t = some (.tup [x, y]) → Dv H' y d → Q (.ref t) H') → t { nx := fun _ H' => Q .non H', rt := Q } (L2.start N vs) H) :
    CalT P w K mg base (k + 1) x n Fp := by
  refine ⟨len, f, fd, ps, gx, F.kp, b, fnG_of F S (fun vs H Q E h => ?_) fun cdv A outer s H vs Q E hr h => ?_⟩
  · obtain ⟨ds, R, h1, h2, _⟩ := h
    rw [h1.length, h2, hn]
  · obtain ⟨ds, R, hd, hl, hF, hQ⟩ := h
    obtain ⟨t, hS, hw⟩ := hbody cdv A outer s H E hr
    obtain ⟨rep, no⟩ := rep_start (P := P) (w := w) (N := N) hd
    exact ⟨_, hS.nox, hw ds R hF vs H Q rep fun d t x y H' r k h1 h2 => hQ d t x y H' r (fun b o e => k.keep b o e) k.trk h1 h2⟩
end
end DL
end DLH
section DLI
set_option Elab.async false
set_option linter.all false
set_option maxRecDepth 100000
set_option maxHeartbeats 1000000
/-! DLI: repr of data -/
namespace DL
open PySem PySem.Spec PyProof.Rows L2
mutual
theorem noDict : ∀ d : PyData, d.plain = true → d.hasDict = false
  | .none, _ => by simp only [PyData.hasDict]
  | .bool _, _ => by simp only [PyData.hasDict]
  | .int _, _ => by simp only [PyData.hasDict]
  | .str _, _ => by simp only [PyData.hasDict]
  | .list xs, h => by simp only [PyData.hasDict]; exact noDictAll xs (by simpa only [PyData.plain] using h)
  | .tuple xs, h => by simp only [PyData.hasDict]; exact noDictAll xs (by simpa only [PyData.plain] using h)
  | .dict _, h => by simp only [PyData.plain] at h; cases h
theorem noDictAll : ∀ ds : List PyData, PyData.plainAll ds = true → PyData.hasDictAll ds = false
  | [], _ => by simp only [PyData.hasDictAll]
  | d :: ds, h => by
    simp only [PyData.plainAll, Bool.and_eq_true] at h
    simp only [PyData.hasDictAll, noDict d h.1, noDictAll ds h.2, Bool.or_self]
end
/-- its text is told -/
structure Shw (d : PyData) : Prop where
  ok : d.showable = true
  dep : d.depth ≤ 60
  len : d.shown.length ≤ sizeLine
def rRepr (K : PySem.W.Frag) : List V → Hp → VK → Prop := fun vs H Q => ∃ v d, vs = [v] ∧ Dp K H v d ∧ Shw d ∧ Q (.str d.shown) H
def cRepr : List Dx → Et := fun xs ρ Q => match xs with
  | [x] => ∃ d, ddOf ρ x = some d ∧ Shw d ∧ Q (.dat (.d (.str d.shown))) ρ
  | _ => False
section
variable {X : Cx}
theorem cr_repr (hg : X.A.guards = some []) (hu : X.A.units + 64 < cLine) : CallR X (.builtin "repr") (rRepr X.K) := by
  rintro pins s σ H vs us Q I r ⟨v, d, rfl, hd, hs, q⟩
  obtain ⟨u, rfl, ru⟩ := vals1 r
  obtain ⟨as, hr⟩ := Dp.reads I d v u hd ru
  have hnd := noDict d (DL.Dp.plain hd)
  cases hr with
  | none => exact PySem.P.repr_of_none ⟨.str _, H, I.tok _, ⟨_, rfl⟩, q⟩
  | bool b => exact PySem.P.repr_of_bool ⟨.str _, H, I.tok _, ⟨_, rfl⟩, by simpa only [PyData.shown] using q⟩
  | int i t => exact PySem.P.repr_of_int (by simpa [PyData.showable] using hs.ok) ⟨.str _, H, I.tok _, ⟨_, rfl⟩, by simpa only [PyData.shown] using q⟩
  | str x t => exact PySem.P.repr_of_str ⟨.str _, H, I.tok _, ⟨_, rfl⟩, by simpa only [PyData.shown] using q⟩ (by simpa only [PyData.shown] using hs.len)
  | list h1 h2 h3 h4 =>
    have hdep := hs.dep
    refine repr_of_reads' (.list h1 h2 h3 h4) hs.ok (noDict_hsm' hnd) hg (by omega) (fun _ _ e => e) (fun h' u tk k => ⟨.str _, H, I.kept k, ⟨_, rfl⟩, q⟩) hs.len
  | tuple h1 h2 h3 h4 =>
    have hdep := hs.dep
    refine repr_of_reads' (.tuple h1 h2 h3 h4) hs.ok (noDict_hsm' hnd) hg (by omega) (fun _ _ e => e) (fun h' u tk k => ⟨.str _, H, I.kept k, ⟨_, rfl⟩, q⟩) hs.len
  | dict h1 h2 h3 h4 h5 => simp only [PyData.hasDict] at hnd; cases hnd
where
  noDict_hsm' {d : PyData} {as : List Addr} (h : d.hasDict = false) : d.hasDict = true → sysModules ∉ as := PyData.noDict_hsm h
theorem ca_repr : CaD X (rRepr X.K) cRepr := by
  intro σ H Hs ρ vs xs R Q rep hs hx k q
  unfold cRepr at k
  split at k
  · rename_i x
    obtain ⟨v, rfl, hv⟩ := hx.one
    obtain ⟨d, e, sh, hR⟩ := k
    exact ⟨v, d, rfl, dd_dp rep hv e, sh, q _ _ (dl_dat rep hR (.str _))⟩
  · exact k.elim
theorem de_repr {k : Nat} {x : Str} {p pos : Pos} {e : Expr} {es : List Expr} {A : At} (hr : RoomG k X.A) (hx : x = ("repr" : Str)) (hg : Gl X x) (hm : X.mg "repr" = none) (ha : DA X (e :: es) A) (he : starEach (e :: es) X.env = (false, eval e X.env) :: starEach es X.env := by rfl) (hpl : (backTo pos (starEach es X.env)).any (·.1) = false := by rfl) :
    DE X (.Call (.Name x p) (e :: es) [] pos) (eCall A cRepr) := by
  subst hx
  exact de_callB ca_repr (cr_repr hr.g hr.hu) hg hm (by decide +kernel) ha (by decide) (by decide) he hpl
end
end DL
end DLI
section DLJ
set_option Elab.async false
set_option linter.all false
set_option maxRecDepth 100000
set_option maxHeartbeats 1000000
/-! DLJ: how long the texts of data are -/
namespace DL
open PySem PySem.Spec PyProof.Rows L2
/-- shown in at most n signs, nested at most k deep -/
structure Sz (d : PyData) (n k : Nat) : Prop where
  ok : d.showable = true
  len : d.shown.length ≤ n
  dep : d.depth ≤ k
theorem Sz.mono {d : PyData} {n k n' k' : Nat} (h : Sz d n k) (h1 : n ≤ n') (h2 : k ≤ k') : Sz d n' k' := ⟨h.ok, Nat.le_trans h.len h1, Nat.le_trans h.dep h2⟩
theorem Sz.shw {d : PyData} {n k : Nat} (h : Sz d n k) (h1 : n ≤ 1000000) (h2 : k ≤ 60) : Shw d := ⟨h.ok, Nat.le_trans h.dep h2, Nat.le_trans h.len (Nat.le_trans h1 (by decide))⟩
theorem sz_none : Sz .none 4 0 := ⟨by simp only [PyData.showable], by simp only [PyData.shown]; decide, Nat.le_refl _⟩
theorem sz_bool (b : Bool) : Sz (.bool b) 5 0 := ⟨by simp only [PyData.showable], by simp only [PyData.shown]; cases b <;> decide, Nat.le_refl _⟩
theorem sz_nat {n : Nat} (h : n < 100) : Sz (.int (n : Nat)) 2 0 := by
  have key : ∀ m : Fin 100, (toString ((m.val : Nat) : Int) : Str).length ≤ 2 := by decide +kernel
  refine ⟨?_, by simp only [PyData.shown]; exact key ⟨n, h⟩, Nat.le_refl _⟩
  simp only [PyData.showable, decide_eq_true_eq, Int.natAbs_natCast]
  have key2 : ∀ m : Fin 100, (m.val).log2 < 1920 := by decide +kernel
  exact key2 ⟨n, h⟩
theorem reprChar_small : ∀ c : Fin 128, (Builtin.Str.reprChar 34 c.val).length ≤ 6 ∧ (Builtin.Str.reprChar 39 c.val).length ≤ 6 := by decide +kernel
theorem fold_small {q : Nat} (hq : q = 34 ∨ q = 39) : ∀ (l : List Nat) (n : Nat), (∀ c ∈ l, c < 128) → l.foldl (fun n c => n + (Builtin.Str.reprChar q c).length) n ≤ n + 6 * l.length
  | [], n, _ => by simp
  | c :: l, n, h => by
    have h1 := fold_small hq l (n + (Builtin.Str.reprChar q c).length) fun x hx => h x (List.mem_cons_of_mem _ hx)
    have hc := reprChar_small ⟨c, h c List.mem_cons_self⟩
    have h2 : (Builtin.Str.reprChar q c).length ≤ 6 := by
      rcases hq with rfl | rfl
      · exact hc.1
      · exact hc.2
    rw [List.foldl_cons, List.length_cons]
    omega
theorem sz_str {x : Str} (h : ∀ c ∈ x.cps.toList, c < 128) : Sz (.str x) (6 * x.length + 2) 0 := by
  refine ⟨by simp only [PyData.showable], ?_, Nat.le_refl _⟩
  simp only [PyData.shown]
  rw [← reprLen_eq]
  have hq : reprQuote x = 34 ∨ reprQuote x = 39 := by
    unfold reprQuote
    split
    · exact .inl rfl
    · exact .inr rfl
  have := fold_small hq x.cps.toList 2 h
  rw [Array.foldl_toList] at this
  have e : x.cps.toList.length = x.length := rfl
  omega
theorem tupleText_len (ts : List Str) : (tupleText ts).length ≤ piled ts + 3 := by
  unfold tupleText
  rw [strLen_append, strLen_append]
  have e1 : ((("(" : String) : Str)).length = 1 := rfl
  have e3 : (((if ts.length == 1 then ",)" else ")" : String) : Str)).length ≤ 2 := by split <;> decide
  rw [e1]
  by_cases h : ts = []
  · subst h
    have : (Str.join ", " []).length = 0 := rfl
    omega
  · have := join_length_add ts h
    omega
theorem sz_all {α : Type} {f : α → PyData} {n k : Nat} : ∀ (l : List α), (∀ x ∈ l, Sz (f x) n k) → PyData.showableAll (l.map f) = true ∧ piled (PyData.shownAll (l.map f)) ≤ (n + 2) * l.length ∧ PyData.depthAll (l.map f) ≤ k
  | [], _ => ⟨by simp only [List.map_nil, PyData.showableAll], by simp only [List.map_nil, PyData.shownAll]; exact Nat.zero_le _, Nat.zero_le _⟩
  | x :: l, h => by
    obtain ⟨h1, h2, h3⟩ := sz_all l fun y hy => h y (List.mem_cons_of_mem _ hy)
    have hx := h x List.mem_cons_self
    refine ⟨?_, ?_, ?_⟩
    · simp only [List.map_cons, PyData.showableAll, hx.ok, h1, Bool.and_self]
    · simp only [List.map_cons, PyData.shownAll, piled_cons, List.length_cons, Nat.mul_succ]
      have := hx.len
      omega
    · simp only [List.map_cons, PyData.depthAll]
      exact Nat.max_le.mpr ⟨hx.dep, h3⟩
theorem sz_tup {α : Type} {f : α → PyData} {n k : Nat} (l : List α) (h : ∀ x ∈ l, Sz (f x) n k) : Sz (.tuple (l.map f)) ((n + 2) * l.length + 3) (k + 1) := by
  obtain ⟨h1, h2, h3⟩ := sz_all l h
  refine ⟨by simp only [PyData.showable]; exact h1, ?_, ?_⟩
  · simp only [PyData.shown]
    exact Nat.le_trans (tupleText_len _) (Nat.add_le_add_right h2 3)
  · simp only [PyData.depth]; omega
theorem sz_two {a b : PyData} {n k m j : Nat} (ha : Sz a n k) (hb : Sz b m j) : Sz (.tuple [a, b]) (2 * (n + m) + 7) (k + j + 1) := by
  have := sz_tup (f := id) (n := n + m) (k := k + j) [a, b] (by
    intro x hx
    rcases List.mem_cons.mp hx with rfl | hx
    · exact ha.mono (by omega) (by omega)
    · rw [List.mem_singleton.mp hx]; exact hb.mono (by omega) (by omega))
  rw [List.map_id] at this
  refine this.mono ?_ (Nat.le_refl _)
  simp only [List.length_cons, List.length_nil]; omega
end DL
end DLJ
section DLK
set_option Elab.async false
set_option linter.all false
set_option maxRecDepth 100000
set_option maxHeartbeats 1000000
/-! DLK: an own exception whose making says super().__init__(x), then keeps x -/
namespace DL
open PySem PySem.Spec PyProof.Rows L2
abbrev supArgs : Arguments := { posonlyargs := [], args := [{ arg := "self", annotation := none, pos := ⟨16, 17, 16, 21⟩ : Arg }, { arg := "lease", annotation := none, pos := ⟨16, 23, 16, 28⟩ : Arg }], vararg := none, kwonlyargs := [], kw_defaults := [], kwarg := none, defaults := [] : Arguments }
abbrev supScope : Scope := { kind := .function, names := [("self", .local), ("lease", .local), ("__class__", .free), ("super", .globalImplicit)], isGenerator := false, isCoroutine := false, more := [] : Scope }
abbrev supBody : List Stmt :=
  [.Expr (.Call (.Attribute (.Call (.Name "super" ⟨17, 8, 17, 13⟩) [] [] ⟨17, 8, 17, 15⟩) "__init__" ⟨17, 8, 17, 24⟩) [.Name "lease" ⟨17, 25, 17, 30⟩] [] ⟨17, 8, 17, 31⟩) ⟨17, 8, 17, 31⟩,
   .Assign [.Attribute (.Name "self" ⟨18, 8, 18, 12⟩) "lease" ⟨18, 8, 18, 18⟩] (.Name "lease" ⟨18, 21, 18, 26⟩) ⟨18, 8, 18, 26⟩]
abbrev supN : List Str := ["self", "lease"]
/-- what the top has left of the class at C, its making at fI -/
structure SupC (P : Program) (K : PySem.W.Frag) (mg : Str → Option Value) (C fI : Addr) : Prop where
  ox : OexC K C
  xf : XfC K C
  noF : PySem.W.findIn K (.ref C) "lease" = some none
  te : PySem.W.exmOne K (.ref C) (.ref C) = some true
  iC : PySem.W.findIn K (.ref C) "__init__" = some (some (.ref fI))
  tI : PySem.W.typeIn K (.ref fI) = some (.type "function")
  isV : PySem.W.subIn K (.ref C) (.type "ValueError") = some true
  mC : PySem.W.mroIn K C (.ref C) = some true
  su : PySem.W.ks_superIn K C C "__init__" = some (some (.builtin "ValueError.__init__"))
  op : PySem.W.nsIn K PySem.cStatics "thirdparty.any" = some none
  ns : mg "super" = none
  top : (P.main.scope.names.lookup ("super" : Str)).isSome = false
/-- its making's function object -/
structure SupF (P : Program) (K : PySem.W.Frag) (C fI : Addr) (fd : FuncData) : Prop where
  ex : ∃ (oc oc2 cl : Value) (od od2 cld : Option Addr) (sl sl2 csl : Array (Option Value)) (kV doc pm ct : Value) (an : Option Addr) (cda cc : Addr) (vs : Array Value) (file : Str) (tf : Tok),
    fd = PySem.W.ksFn "__init__" "NoWay.__init__" supArgs supBody supScope .none kV doc pm an (.ref cda) ct cc ∧ K.lookup fI = some ⟨oc, od, .func fd, sl⟩ ∧ PySem.W.codeIn K (.ref cda) "NoWay.__init__" = true ∧
    K.lookup cda = some ⟨oc2, od2, .fields vs, sl2⟩ ∧ vs[2]? = some (.str file tf) ∧ ((P.main.file : Str) == file) = true ∧ K.lookup cc = some ⟨cl, cld, .cell (some (.ref C)), csl⟩
/-- the context of its body -/
def cxS (P : Program) (w : World) (K : PySem.W.Frag) (mg : Str → Option Value) (base : Heap) (qual : Str) (f cda cc : Addr) (A : Around) (outer : List Env) (s : Shared) (H : Hp) : Cx where
  prog := P
  w := w
  K := K
  mg := mg
  base := base
  A := A.deeper (PySem.W.ksEnv qual supScope s.heap.objs.size f (.ref cda) cc)
  N := supN
  s_0 := s
  H_0 := H
  env := PySem.W.ksEnv qual supScope s.heap.objs.size f (.ref cda) cc
  outer := outer
  stack := PySem.W.ksEnv qual supScope s.heap.objs.size f (.ref cda) cc :: outer
  ex := []
  calm := true
  fn := fun _ => false
  pn := []
  xe := fun _ _ => False
section
variable {P : Program} {w : World} {K : PySem.W.Frag} {mg : Str → Option Value} {base : Heap} {qual : Str} {f cda cc : Addr} {A : Around} {outer : List Env} {s : Shared} {H : Hp}
theorem cell1 {cc c : Addr} {y : Str} (h : ([("__class__", cc)] : List (Str × Addr)).lookup y = some c) : y = "__class__" ∧ c = cc := by
  by_cases e : y = "__class__"
  · subst e
    simp [List.lookup] at h
    exact ⟨rfl, h.symm⟩
  · have : (y == ("__class__" : Str)) = false := by simpa using e
    simp [List.lookup, this] at h
theorem supFree {y : Str} (h : supScope.names.lookup y = some .cell ∨ supScope.names.lookup y = some .free) : y = "__class__" := by
  have hm : (y, NameKind.cell) ∈ supScope.names ∨ (y, NameKind.free) ∈ supScope.names := h.imp PySem.mem_of_lookup PySem.mem_of_lookup
  rcases hm with hm | hm <;> simp [supScope] at hm
  exact hm
theorem sup_start {h1 : Heap} {tk : Nat} {m : Str → Option Value} {σ : L2.St} {v : Option Value} {cl : Value} {cld : Option Addr} {csl : Array (Option Value)} (hd : A.handled = none) (e0 : Env0 P w K mg base A outer s H) (hcc : K.lookup cc = some ⟨cl, cld, .cell v, csl⟩)
    (hns : h1.Ns s.heap.objs.size m) (kp : ∀ b o, s.heap.get? b = some o → h1.get? b = some o)
    (hloc : ∀ (i : Nat) (x : Str) (v : V), supN[i]? = some x → σ[i]? = some (some v) → ∃ u, RelV v u ∧ m x = some u) (hl : σ.length = 2) :
    Inv (cxS P w K mg base qual f cda cc A outer s H) [] σ H { s with heap := h1, toks := tk } := by
  have inB : base.get? cc = some ⟨cl, cld, .cell v, csl⟩ := e0.mod.kin _ _ hcc
  have inS := (e0.bs _ _ inB).1
  have noA : ∀ b : Addr, b ∉ (cxS P w K mg base qual f cda cc A outer s H).ex := fun b z => by cases z
  have cells : ∀ {y : Str} {c : Addr}, (cxS P w K mg base qual f cda cc A outer s H).env.cells.lookup y = some c → y = "__class__" ∧ c = cc := fun h => cell1 h
  refine { ok := ⟨e0.mod, rfl, rfl, rfl, Nat.le_refl _, fun x y c h1 h2 => (cells h1).1.trans (cells h2).1.symm, fun y hy => ⟨cc, ?_⟩, fun y c z _ => (by cases z), fun _ => hd, Around.frames_deeper e0.frames, .inr ⟨rfl, rfl⟩, fun b z => absurd z (noA b), e0.bs, e0.bsz, fun b _ _ => noA b, fun b z => absurd z (noA b), e0.funs, e0.frf⟩,
           os := rfl, bare := e0.bare, base := Un.kept kp, loc := ⟨m, hns, fun i x v h1 h2 h3 => ?_⟩, cell := fun y c h => ⟨v, ?_⟩, free := e0.hok.fresh (Nat.le_refl _), freeC := fun y c h => ?_, pin := fun q hq => (by cases hq), hok := e0.hok.kept kp, len := hl }
  · rw [supFree hy]; rfl
  · obtain ⟨u, r, hm⟩ := hloc i x v h1 h2
    refine ⟨u, r, .inl ⟨?_, hm⟩⟩
    have hx : x ∈ supN := List.mem_of_getElem? h1
    rcases List.mem_cons.mp hx with e | hx
    · subst e; rfl
    · rw [List.mem_singleton.mp hx]; rfl
  · rw [(cells h).2]
    exact ⟨_, kp _ _ inS, rfl⟩
  · rw [(cells h).2]
    exact (e0.bs _ _ inB).2
end
section
variable {X : Cx} {pins : List (Addr × Obj)} {σ : L2.St} {H : Hp} {s : Shared} {a C u : Addr}
/-- the built-in making, bound to the exception at a, is called: nothing of it is told -/
theorem init_mw {A : Around} {E : Value → Shared → Prop} {us : List Value} {Q : Value → Shared → Prop} (T : OexC X.K C) (I : Inv X pins σ H s) (hu : s.heap.get? u = some (PySem.W.kxs_mw "ValueError.__init__" a)) (e : H a = some (exo a C none)) (hl : us.length ≤ sizeLine) (h : ∀ s', Inv X pins σ H s' → Q .none s') :
    wpAny (model X.prog X.w) A (call (.ref u) us) Q E s := by
  obtain ⟨nm, q, N, bs, bm, sn, sub, ab, col, dd, k0, k1, k2, k3, k5, hC, hbm⟩ := T.cls
  obtain ⟨t1, ho⟩ := exo_at I.hok e
  obtain ⟨hp, g, d, t, os⟩ := s
  refine wpAny_call (codeAny_of_tree ?_)
  show wpAny _ A.in1 (callAny (.ref u) ⟨us, []⟩) _ _ _
  unfold callAny
  refine wpAny_bind (wpAny_load hu ?_)
  refine PySem.W.KFB.if_so (show ((Value.type "method-wrapper" == Value.type "method" || Value.type "method-wrapper" == Value.type "builtin_function_or_method" || Value.type "method-wrapper" == Value.type "method-wrapper") = true) by decide) ?_
  refine wpAny_bind (PySem.W.check_bound_init F.excBase_ValueError.toExcCallFacts (I.kIn _ _ hC) ho rfl ?_)
  refine wpAny_bind (wpAny_pure (wpAny_pure ⟨PySem.plainId_quiet F.excBase_ValueError.init.plain _, codeAny_builtin F.excBase_ValueError.initEntry ?_⟩))
  refine PySem.W.exc_init_tree (cls := .ref C) (t0 := t1) (dv := none) (c2 := .none) (c3 := .none) (b4 := .bool false) ho hl fun h' k hx _ => ?_
  have J := I.write (t' := t) (x := a) (e := a) (o := exo a C none) (by rw [e]; exact True.intro) (.inl rfl) k ⟨_, hx⟩ (exo_ok hx)
  have eu : upd H a (exo a C none) = H := funext fun b => by
    by_cases hb : b = a
    · rw [hb, upd_same, e]
    · rw [upd_ne hb]
  rw [eu] at J
  exact h _ J
end

/-- its promise: the exception at a has got its dict with what was told -/
def spSup (C : Addr) : Sp := fun vs H Q _ => ∃ (a : Addr) (y : V), vs = [.ref a, y] ∧ H a = some (exo a C none) ∧ ∀ dx, H dx = none → dx ≠ a → Q .non (upd (upd H dx (exd dx [("lease", y)])) a (exo a C (some dx)))
section
variable {P : Program} {w : World} {K : PySem.W.Frag} {mg : Str → Option Value} {base : Heap} {C fI : Addr} {fd : FuncData} {k : Nat} {CX : CXT}
theorem sup_ok (T : SupC P K mg C fI) (F : SupF P K C fI fd) : FnOk P w K mg base CX k fI fd supN (spSup C) := by
  obtain ⟨oc, oc2, cl, od, od2, cld, sl, sl2, csl, kV, doc, pm, ct, an, cda, cc, vs, file, tf, rfl, lk, hcd, lc, hv2, hfile, lcc⟩ := F.ex
  refine ⟨fun vs H Q E ⟨a, y, e, _⟩ => by rw [e]; rfl, fun A outer s H args us vs Q E hr e0 hb r hsp => ?_⟩
  obtain ⟨a, y, rfl, ha, hq⟩ := hsp
  obtain ⟨ua, uy, rfl, ra, ry⟩ : ∃ ua uy, us = [ua, uy] ∧ RelV (V.ref a) ua ∧ RelV y uy := by
    cases r with
    | cons r1 r2 => cases r2 with
      | cons r2 r3 => cases r3; exact ⟨_, _, rfl, r1, r2⟩
  obtain rfl : ua = Value.ref a := ra
  have ra' : RelV (V.ref a) (Value.ref a) := rfl
  have inK : K.In s.heap := e0.mod.kin.keeps fun b o e => (e0.bs b o e).1
  have lim : s.heap.NoLimit := e0.mod.nolimit.keeps fun b o e => (e0.bs b o e).1
  refine ks_codeAny_call_defAt (fd := PySem.W.ksFn "__init__" "NoWay.__init__" supArgs supBody supScope .none kV doc pm an (.ref cda) ct cc) (body := supBody) (binds := supN.zip [.ref a, uy]) hr.depth (inK _ _ lk) rfl lim (PySem.W.codeRec_of inK hcd) rfl hb (show ∀ x ∈ supScope.names, x.2 ≠ .cell by decide) (fun y hy => ?_) (fun h1 hns kp => ?_)
  · have : y.1 ∈ supN := (List.of_mem_zip hy).1
    rcases List.mem_cons.mp this with e | e
    · rw [e]; rfl
    · rw [List.mem_singleton.mp e]; rfl
  have I : Inv (cxS P w K mg base "NoWay.__init__" fI cda cc A outer s H) [] (L2.start supN [V.ref a, y]) H { s with heap := h1, toks := s.toks + (supN.zip [Value.ref a, uy]).length } := by
    refine sup_start hr.hd e0 lcc hns kp (fun i x v h1 h2 => ?_) rfl
    match i, h1, h2 with
    | 0, h1, h2 => cases h1; cases h2; exact ⟨_, ra', rfl⟩
    | 1, h1, h2 => cases h1; cases h2; exact ⟨_, ry, rfl⟩
    | i + 2, h1, h2 => simp [supN] at h1
  have Xk : K.In h1 := I.kIn
  obtain ⟨t1, hx⟩ := exo_at I.hok ha
  obtain ⟨mb, hb1, hb2⟩ := I.mod.blt
  obtain ⟨nm, q, N, bs, bm, sn, sub, ab, col, dd, k0, k1, k2, k3, k5, hC, hbm⟩ := T.ox.cls
  refine ks_wpAt_execs_cons (ks_wpAt_Expr_any (ks_wpAt_MethodCall ?_))
  refine ks_wpAt_super_base (env := PySem.W.ksEnv "NoWay.__init__" supScope s.heap.objs.size fI (.ref cda) cc) rfl rfl (by decide) rfl (Xk _ _ lk) rfl rfl rfl (Xk _ _ lc) rfl hv2 hfile T.top ?_
  refine PySem.W.ks_loadName_global rfl rfl (Calls.loadGlobal_builtin (I.mod.glob.keeps I.bk) T.ns (hb1.keeps I.bk) ((hb2 _ (by decide)).trans (by decide +kernel)) ⟨rfl, ?_⟩)
  refine wpAny_loadName_free rfl rfl rfl ⟨_, Xk _ _ lcc, rfl⟩ ?_
  refine wpAny_loadName_local rfl rfl hns rfl ?_
  refine ks_wpAny_isType_cls (Xk _ _ hC) rfl ⟨rfl, ?_⟩
  refine ks_wpAny_call_super (Xk _ _ hC) rfl hx rfl (fun c e => by cases e) (PySem.W.looks_mroIn Xk T.mC) (fun h2 hso k2 => ?_)
  have I2 : Inv (cxS P w K mg base "NoWay.__init__" fI cda cc A outer s H) [] (L2.start supN [V.ref a, y]) H { s with heap := h2, toks := s.toks + (supN.zip [Value.ref a, uy]).length } := I.kept k2
  have hx2 := k2 _ _ hx
  have LI : PySem.W.Looks (model P w) h2 (isInstance (.ref a) (.type "ValueError")) true := (show PySem.W.InstAt h2 a _ C none from ⟨hx2, rfl, rfl, trivial⟩).type.andThen (PySem.W.looks_subIn I2.kIn T.isV)
  have hcl : PySem.W.clsIn K C = some { name := nm, bases := bs, mro := .ref C :: bm, ns := N, qualname := q, hasDict := true, slotNames := sn, subclasses := sub, abstract := ab, collection := col, hasDel := false } := by unfold PySem.W.clsIn; rw [hC] <;> rfl
  have hsu := T.su
  unfold PySem.W.ks_superIn at hsu
  rw [hcl] at hsu
  have hne : a ≠ C := fun z => by
    have e1 := I2.kIn _ _ hC
    rw [← z, hx2] at e1
    cases e1
  refine PySem.W.kxs_getMethod PySem.W.kxs_ValueError hso (PySem.W.looks_opaque I2.kIn T.op) (l₀ := .ref C :: bm) (fun A Q E s k q => wpAny_bind ((PySem.W.looks_clsIn I2.kIn hcl) A _ E s k (wpAny_pure q))) rfl I2.kIn hsu LI hne (by decide) ?_
  have k3 : ∀ b o, h2.get? b = some o → (h2.push (PySem.W.kxs_mw "ValueError.__init__" a)).get? b = some o := fun b o e => Heap.get?_push_of_some _ e
  have I3 : Inv (cxS P w K mg base "NoWay.__init__" fI cda cc A outer s H) [] (L2.start supN [V.ref a, y]) H { s with heap := h2.push (PySem.W.kxs_mw "ValueError.__init__" a), toks := s.toks + (supN.zip [Value.ref a, uy]).length + 1 } := I2.kept k3
  have hu : (h2.push (PySem.W.kxs_mw "ValueError.__init__" a)).get? h2.objs.size = some (PySem.W.kxs_mw "ValueError.__init__" a) := Heap.get?_push_at rfl rfl
  have hun : H h2.objs.size = none := I2.hok.fresh (Nat.le_refl _)
  refine PySem.W.kxs_callWith (i := "ValueError.__init__") (x := a) rfl (Calls.evalArgs_plain ?_)
  refine Calls.spliced_cons (wpAny_Name (wpAny_loadName_local rfl rfl (hns.keeps fun b o e => k3 _ _ (k2 _ _ e)) rfl ?_) (by decide))
  refine Calls.spliced_nil ⟨hu, ?_⟩
  refine init_mw (X := cxS P w K mg base "NoWay.__init__" fI cda cc A outer s H) T.ox I3 hu ha (show 1 ≤ sizeLine by decide) fun s4 I4 => ?_
  have run := (pss_one (ps_ost (X := cxS P w K mg base "NoWay.__init__" fI cda cc A outer s H) (pos := ⟨18, 8, 18, 26⟩) (p' := ⟨18, 8, 18, 18⟩) (f := "lease") (pe_var (i := 0) (pos := ⟨18, 8, 18, 12⟩) rfl (.inl rfl)) (pe_var (i := 1) (pos := ⟨18, 21, 18, 26⟩) rfl (.inl rfl)))).run [] s4 _ H
    { nx := fun _ H' => Q .non H', rt := fun _ _ => False, bk := fun _ _ => False, ct := fun _ _ => False } I4 ⟨y, rfl, V.ref a, rfl, a, C, rfl, T.ox, T.noF, .inl ⟨ha, fun dx h1 h2 => hq dx h1 h2⟩⟩
  refine wpAt_of_wpAny (wpAny_mono run (fun fl s5 hs => ?_) fun e s5 z => z.elim)
  cases fl with
  | next =>
    obtain ⟨σ5, H5, J, q5⟩ := hs
    exact ⟨V.non, H5, J.os, J.bare, J.base, J.hok, rfl, q5⟩
  | brk => obtain ⟨_, _, _, z⟩ := hs; exact False.elim z
  | cont => obtain ⟨_, _, _, z⟩ := hs; exact False.elim z
  | ret u => obtain ⟨_, _, _, _, _, z⟩ := hs; exact False.elim z
end
end DL
end DLK
section DLL
set_option Elab.async false
set_option linter.all false
set_option maxRecDepth 100000
set_option maxHeartbeats 1000000
/-! DLL: defs that answer data or let an own exception out -/
namespace DL
open PySem PySem.Spec PyProof.Rows L2
abbrev PrX := List Dt → (PyData → Prop) → Prop
/-- what is told of an exception in the air: its dict keeps d -/
def spX (P : Program) (w : World) (n : Nat) (C : Addr) (F : Pr) (G : PrX) : Sp := fun vs H Q E => ∃ ds, DtAll P w H vs ds ∧ ds.length = n ∧
  ((∃ R, F ds R ∧ ∀ d v H', R d → Same H H' → (∀ b, H' b = none → H b = none) → Dtv P w H' v d → Q v H') ∨
    ∃ R, G ds R ∧ ∀ d v dx H', R d → Same H H' → (∀ b, H' b = none → H b = none) → H' dx = some (.xd [("lease", v)]) → Dv H' v d → E (.ref C) (some dx) H')
structure CalX (P : Program) (w : World) (K : PySem.W.Frag) (mg : Str → Option Value) (base : Heap) (k : Nat) (x : Str) (n : Nat) (C : Addr) (F : Pr) (G : PrX) : Prop where
  lenF : ∀ ds R, F ds R → ds.length = n
  lenG : ∀ ds R, G ds R → ds.length = n
  ex : ∃ (f : Addr) (fd : FuncData) (ps : List Str), mg x = some (.ref f) ∧ PySem.W.keepIn K (.ref f) = true ∧ Binds K fd ps [] ∧ FnG P w K mg base (L2.CX P w) k f fd ps (spX P w n C F G)
/-- the reading of such a call -/
def tFnX (P : Program) (w : World) (C : Addr) (A : At) (F : Pr) (G : PrX) (E : XK) : TE := fun σ H Q => ∃ ρ, Rep P w H σ ρ ∧ A ρ fun xs ρ1 => ∃ ds, dts xs = some ds ∧
  ((∃ R, F ds R ∧ ∀ d v H', R d → Le (ownA σ ρ) H (ownA σ ρ1) H' → Rep P w H' σ ρ1 → Dtv P w H' v d → Q v H') ∨
    ∃ R, G ds R ∧ ∀ d v dx H', R d → Le (ownA σ ρ) H (ownA σ ρ1) H' → Rep P w H' σ ρ1 → H' dx = some (.xd [("lease", v)]) → Dv H' v d → E (.ref C) (some dx) H')
section
variable {X : Cx} {k j n : Nat} {x : Str} {p pos : Pos} {e : Expr} {es : List Expr} {A : At} {F : Pr} {G : PrX} {C : Addr} {E : XK}
theorem pe_fnX (CC : CalX X.prog X.w X.K X.mg X.base k x n C F G) (hr : RoomG j X.A) (hkj : k ≤ j) (hg : Gl X x) (hx : Passes (L2.CX X.prog X.w) X E) (ha : DA X (e :: es) A) (hdb : (x == ("__debug__" : Str)) = false := by decide)
    (he : starEach (e :: es) X.env = (false, eval e X.env) :: starEach es X.env := by rfl) (hpl : (backTo pos (starEach es X.env)).any (·.1) = false := by rfl) : PE X (.Call (.Name x p) (e :: es) [] pos) (tFnX X.prog X.w C A F G E) := by
  obtain ⟨f, fd, ps, h1, h2, h3, h4⟩ := CC.ex
  refine PE.imp (pe_callG (h4.mono hkj) hr hg h1 h2 h3 hx ha hdb he hpl) fun σ H Q ⟨ρ, rep, hA⟩ => ?_
  refine ⟨ρ, _, rep, hA, fun vs H2 xs ρ2 ⟨ds, hd, hw⟩ le rep2 hxv => ?_⟩
  refine ⟨ds, dts_all hxv hd, ?_, ?_⟩
  · rcases hw with ⟨R, hF, _⟩ | ⟨R, hG, _⟩
    · exact CC.lenF _ _ hF
    · exact CC.lenG _ _ hG
  · rcases hw with ⟨R, hF, q⟩ | ⟨R, hG, q⟩
    · exact .inl ⟨R, hF, fun d v H' hR hs ht hd => q d v H' hR (le.trans ⟨fun b o e _ => hs b o e, ht, fun b m => .inl m⟩) (rep2.same hs) hd⟩
    · exact .inr ⟨R, hG, fun d v dx H' hR hs ht hx hd => q d v dx H' hR (le.trans ⟨fun b o e _ => hs b o e, ht, fun b m => .inl m⟩) (rep2.same hs) hx hd⟩
/-- raise C(e) -/
def tRaiseX (P : Program) (w : World) (C : Addr) (A : At) (W : WX) : TS := fun _ σ H => ∃ ρ, Rep P w H σ ρ ∧ A ρ fun xs ρ1 => ∃ d, dats xs = some [d] ∧
  ∀ v dx H', Le (ownA σ ρ) H (ownA σ ρ1) H' → H' dx = some (.xd [("lease", v)]) → Dv H' v d → W (.ref C) (some dx) σ H'
theorem binds_sup {P : Program} {K : PySem.W.Frag} {C fI : Addr} {fd : FuncData} (F : SupF P K C fI fd) : Binds K fd supN [] := by
  obtain ⟨oc, oc2, cl, od, od2, cld, sl, sl2, csl, kV, doc, pm, ct, an, cda, cc, vs, file, tf, rfl, _⟩ := F.ex
  exact .all fun us hl => match us, hl with | [_, _], _ => rfl
theorem ps_raiseX {fI : Addr} {fd : FuncData} {W : WX} {Et' : Et} {pos2 : Pos} (hc : X.calm = true) (T : SupC X.prog X.K X.mg C fI) (SF : SupF X.prog X.K C fI fd) (gC : X.mg x = some (.ref C)) (hr : RoomG j X.A) (h1 : 1 ≤ j) (hg : Gl X x) (tk : Takes X W) (he : DE X e Et')
    (hdb : (x == ("__debug__" : Str)) = false := by decide) (hs : starEach [e] X.env = (false, eval e X.env) :: starEach [] X.env := by rfl) :
    PS X (.Raise (some (.Call (.Name x p) [e] [] pos)) none pos2) (tRaiseX X.prog X.w C (aCons Et' aNil) W) := by
  refine PS.imp (ps_raise hc tk (pmk_oex (CX := CX0) T.ox T.iC T.tI (sup_ok T SF) (hr.r.mono h1) (binds_sup SF) .nil pass0 hg gC (da_cons he da_nil hs) hdb hs)) fun D σ H ⟨ρ, rep, hE⟩ => ?_
  refine ⟨ρ, _, rep, hE, fun vs H2 xs ρ2 ⟨d, hd, hR⟩ le rep2 hxv => ?_⟩
  obtain ⟨v, rfl, hv⟩ : ∃ v, vs = [v] ∧ Dv H2 v d := by
    have hall := (dats_all hd).dv hxv
    cases hall with
    | cons h1 h2 => cases h2; exact ⟨_, rfl, h1⟩
  refine ⟨Nat.succ_le_of_lt (by decide), fun a ha => ⟨a, v, rfl, upd_same, fun dx hdx hne => ⟨rfl, dx, [("lease", v)], upd_same, ?_, ?_, ?_⟩⟩⟩
  · rw [upd_ne hne, upd_same]
  · rw [upd_ne hne] at hdx; exact hdx
  · have hd2 : H2 dx = none := by rw [upd_ne hne] at hdx; exact hdx
    have same : ∀ b o, H2 b = some o → (upd (del (upd (upd (upd H2 a (exo a C none)) dx (exd dx [("lease", v)])) a (exo a C (some dx))) a) dx (.xd [("lease", v)])) b = some o := fun b o e => by
      have na : b ≠ a := ne_of_none e ha
      have nd : b ≠ dx := ne_of_none e hd2
      rw [upd_ne nd, del_ne na, upd_ne na, upd_ne nd, upd_ne na]
      exact e
    refine hR v dx _ (le.trans ⟨fun b o e _ => same b o e, fun b e => ?_, fun b m => .inl m⟩) upd_same (hv.keep ⟨fun b xs e => same b _ e, fun b o u e => same b _ e⟩)
    by_cases nd : b = dx
    · rw [nd]; exact hd2
    by_cases na : b = a
    · rw [na]; exact ha
    rw [upd_ne nd, del_ne na, upd_ne na, upd_ne nd, upd_ne na] at e
    exact e
end
end DL
end DLL
section DLM
set_option Elab.async false
set_option linter.all false
set_option maxRecDepth 100000
set_option maxHeartbeats 2000000
/-! DLM: try, its first clause taken; a lambda handed to a def -/
namespace DL
open PySem PySem.Spec PyProof.Rows L2
/-- the first clause takes it: slot i is its name's -/
def wFirst (K : PySem.W.Frag) (c : Value) (i : Nat) (ts : Addr → Value → Option Addr → TS) (D : Ends) : WX := fun cls d σ H =>
  PySem.W.exmOne K cls c = some true ∧ ∀ a, H a = none → ts a cls d { nx := fun σ' H' => D.nx (σ'.set i none) H', rt := D.rt, bk := fun σ' H' => D.bk (σ'.set i none) H', ct := fun σ' H' => D.ct (σ'.set i none) H' } (σ.set i (some (.ref a))) H
section
variable {X : Cx} {x n : Str} {c : Value} {i : Nat} {body suite : List Stmt} {more : List ExceptHandler} {b0 : Stmt} {np pos pos' : Pos} {tb : WX → TS} {ts : Addr → Value → Option Addr → TS}
theorem ps_try_first (hs : X.stack = X.env :: X.outer) (hf : X.env.frame = some X.env.locals) (hN : X.N.Nodup) (hi : X.N[i]? = some n) (hln : X.env.kindOf n = some .local) (hc : Names X x c)
    (hb : ∀ (W : WX) (pn : List (Addr × Obj)) (xe : Value → Shared → Prop), Takes (X.tr pn xe) W → PSs (X.tr pn xe) body (tb W))
    (hsu : ∀ (a : Addr) (oe : Obj) (cls : Value) (d : Option Addr) (pn : List (Addr × Obj)), Zc cls d oe → (∃ vs, oe.data = .fields vs) → PSs (X.suite a ((a, oe) :: pn)) (b0 :: suite) (ts a cls d)) :
    PS X (.Try body (.ExceptHandler (some (.Name x np)) (some n) (b0 :: suite) pos' :: more) [] [] pos) (fun D σ H => tb (wFirst X.K c i ts D) D σ H) := by
  refine ⟨fun pins s σ H D I h => wpAny_Try_except ?_⟩
  have ok := I.ok
  have hfr : X.A.frames = some (X.env :: X.outer) := by rw [ok.frames, hs]
  let hds := ExceptHandler.ExceptHandler (some (.Name x np)) (some n) (b0 :: suite) pos' :: more
  let catch_ : Value → Shared → Prop := fun e s1 => wpAny (model X.prog X.w) X.A (noteFrame e X.env) (fun _ s2 => wpAny (model X.prog X.w) X.A (setFlight e none) (fun _ s3 => wpAny (model X.prog X.w) X.A (handleBy e X.env hds) (SP X pins D) X.xe s3) X.xe s2) X.xe s1
  have tk : Takes (X.tr (X.pn ++ pins) catch_) (wFirst X.K c i ts D) := by
    rintro u s1 ⟨a, B, sI, pins1, σ1, H1, cls, d, rfl, I1, nb, up, sky, na, os, ag, hm, hyes⟩
    have J1 : Inv X pins σ1 H1 sI := I1.ofTry ok
    have sky1 : Sky B (X.env :: X.outer) a (Zc cls d) X.env.locals s1.heap := hs ▸ sky
    refine Sky.land Zc.steady hfr hf sky1 fun h2 fl2 up2 => ?_
    have J2 : Inv X pins σ1 H1 { s1 with heap := h2 } := J1.landed nb fl2.1 (up.trans up2) os ag
    obtain ⟨oe2, vs2, he2, hz2, hd2⟩ := fl2.there
    have off : ∀ b ∈ frs (X.env :: X.outer), b ≠ a := fun b hm z => by
      obtain ⟨_, o1, g1, g2⟩ := fl2.2.2.1.mem hm
      rw [z, he2] at g1
      cases g1
      exact g2 _ hd2
    have nL : a ≠ X.env.locals := fun z => off X.env.locals (List.mem_filterMap.mpr ⟨X.env, List.mem_cons_self, hf⟩) z.symm
    have nF : a ∉ X.fs := fun m => by
      obtain ⟨en, m1, m2⟩ := List.mem_filterMap.mp m
      exact off a (List.mem_filterMap.mpr ⟨en, List.mem_cons_of_mem _ m1, m2⟩) rfl
    have S2 := J2.suite he2 hd2 na nL nF
    refine wpAny_handleBy_cons (codeAny_handlers_test ?_) (by intro z; cases z)
    have LT : PySem.W.Looks (model X.prog X.w) h2 (typeOf (.ref a)) cls := fun A Q E s k q => wpAny_typeOf_ref (k _ _ he2) (by rw [hz2.1]; exact q)
    have LM := PySem.W.exm_one (M := model X.prog X.w) J2.kIn LT hm
    have name : ∀ {Q E : Value → Shared → Prop}, Q c { s1 with heap := h2 } → wpAny (model X.prog X.w) (X.A.mark (some (.ref a))) (eval (.Name x np) X.env) Q E { s1 with heap := h2 } := fun {Q E} q => by
      obtain ⟨g1, g2, g3⟩ := hc
      rcases g3 with g3 | ⟨g3, g4, g5⟩
      · exact ld_glob (X := X.suite a ((a, oe2) :: (X.pn ++ pins))) S2 g1 g3 q g2
      · exact ld_blt (X := X.suite a ((a, oe2) :: (X.pn ++ pins))) S2 g1 g3 g4 q g5 g2
    refine name (LM.here (codeAny_handlers_suite_as (HandSPX.lands_againZ fl2 fun h3 fl3 up3 => ?_)))
    have J3 : Inv X pins σ1 H1 { s1 with heap := h3 } := J1.landed nb fl3.1 ((up.trans up2).trans up3) os ag
    obtain ⟨oe3, vs3, he3, hz3, hd3⟩ := fl3.there
    refine store_ok (X := X.suite a ((a, oe3) :: (X.pn ++ pins))) (v := .ref a) (J3.suite he3 hd3 na nL nF) hN hi (.inl hln) rfl (fun s4 S4 => ?_) (.inr hln)
    refine wpAny_mono ((hsu a oe3 cls d (X.pn ++ pins) hz3 ⟨_, hd3⟩).run [] s4 _ H1 _ S4 (hyes a na)) (fun fl s5 hq => ?_) fun _ _ z => z.elim
    have out : ∀ {σ5 : L2.St} {H5 : Hp} {Q : Shared → Prop}, Inv (X.suite a ((a, oe3) :: (X.pn ++ pins))) [] σ5 H5 s5 → (∀ s6, Inv X pins (σ5.set i none) H5 s6 → Q s6) →
        wpAny (model X.prog X.w) X.A (do bindName X.env n .none; unbindBehindTheSuite X.env n pos') (fun _ s6 => Q s6) X.xe s5 := fun S5 q => gone_ok (S5.unsuite ok) hN hi hln q
    match fl, hq with
    | .next, ⟨σ5, H5, S5, q5⟩ => exact out S5 fun s6 J6 => ⟨_, _, J6, q5⟩
    | .brk, ⟨σ5, H5, S5, q5⟩ => exact out S5 fun s6 J6 => ⟨_, _, J6, q5⟩
    | .cont, ⟨σ5, H5, S5, q5⟩ => exact out S5 fun s6 J6 => ⟨_, _, J6, q5⟩
    | .ret u, ⟨v5, σ5, H5, S5, r5, q5⟩ => exact out S5 fun s6 J6 => ⟨_, _, _, J6, r5, q5⟩
  refine wpAny_mono ((hb (wFirst X.K c i ts D) (X.pn ++ pins) catch_ tk).run [] s σ H D (I.toTry _) h) (fun fl s1 hq => ?_) fun e s1 he => he
  match fl, hq with
  | .next, ⟨σ1, H1, J1, q1⟩ => exact wpAny_execs_nil ⟨σ1, H1, J1.ofTry ok, q1⟩
  | .brk, ⟨σ1, H1, J1, q1⟩ => exact ⟨σ1, H1, J1.ofTry ok, q1⟩
  | .cont, ⟨σ1, H1, J1, q1⟩ => exact ⟨σ1, H1, J1.ofTry ok, q1⟩
  | .ret u, ⟨v1, σ1, H1, J1, r1, q1⟩ => exact ⟨v1, σ1, H1, J1.ofTry ok, r1, q1⟩
end

/-! ### act(), where act is a lambda of the law's -/
open LamX in
section
variable {X : Cx} {pins : List (Addr × Obj)} {σ : L2.St} {H : Hp} {s : Shared}
/-- the lambda's body runs within the guards that are known -/
theorem pe_actG {CXg : CXT} {Eg : XK} {Ng : List Str} {qg : Str} {sg : Scope} {g f c' : Addr} {cdg pm ctv : Value} {params : Arguments} {body : Expr} {scope : Scope} {k i : Nat} {a : Str} {pn : List (Addr × Obj)} {xe : Value → Shared → Prop} {W : WX} {tb : XK → TE} {p1 p2 : Pos}
    (I : Inv X pins σ H s) (L : LamS X.env.scope scope) (hf : s.heap.get? f = some (PySem.W.kla_obj "<lambda>" (X.env.qual ++ "<lambda>") params body scope (cloFrom X.env.cells scope.names []) pm c' ctv)) (hfn : H f = none) (hfr : f ∉ frs X.stack)
    (hbind : bindArgs (PySem.W.kla_fn "<lambda>" (X.env.qual ++ "<lambda>") params body scope (cloFrom X.env.cells scope.names []) pm (.ref c') ctv) ⟨[], []⟩ = pure [])
    (tk : Takes ((cxOf CXg X.prog X.w X.K X.mg X.base Ng qg sg g cdg X.A X.stack s H Eg).tr pn xe) W) (hr : RoomG (k + 1) (X.A.deeper (envOfC qg sg s.heap.objs.size g cdg)))
    (hbody : ∀ (A : Around) (outer : List Env) (s : Shared) (H : Hp) (E : XK), RoomG k (A.deeper (lamEnv X scope s.heap.objs.size f c')) → PE (lamCx X A outer s H E scope f c') body (tb E))
    (hN : Ng[i]? = some a) (hv : Vis sg a) (hd : (a == ("__debug__" : Str)) = false := by decide) (hcd : (a == ("__classdict__" : Str)) = false := by decide) :
    PE ((cxOf CXg X.prog X.w X.K X.mg X.base Ng qg sg g cdg X.A X.stack s H Eg).tr pn xe) (.Call (.Name a p1) [] [] p2) (fun σZ HZ Q => σZ[i]? = some (some (.ref f)) ∧ HZ c' = some (CodeO c' (X.env.qual ++ "<lambda>")) ∧ ∃ E : XK, (∀ cls d H', E cls d H' → W cls d σZ H') ∧ tb E σ HZ Q) := by
  refine ⟨fun pinsZ sZ σZ HZ Q IZ ⟨hs, hc, E, hW, ht⟩ => ?_⟩
  refine wpAny_Call_Name_kw (thn ((pe_var (pos := p1) (i := i) hN hv hd hcd).run pinsZ sZ σZ HZ (fun v H1 => v = .ref f ∧ H1 = HZ) IZ ⟨.ref f, hs, rfl, rfl⟩) fun u s1 ⟨v, H1, I1, r1, ev, eH⟩ => ?_)
  subst ev eH
  obtain rfl : u = Value.ref f := r1
  have of1 := I1.base.keep f _ hf hfn hfr (fun z => nomatch (show f ∈ ([] : List Addr) from z))
  have un : Un (frs X.stack) [] H H1 s.heap s1.heap := I1.base
  have ⟨⟨oc, vs, t, hoc, hdc, hvc⟩, _, _⟩ := I1.hok c' _ hc
  refine PySem.W.callWith_F0 ⟨_, _, _, _, of1⟩ (wpAny_call (codeAny_mono (R := CR (L2.CX X.prog X.w) (envOfC qg sg s.heap.objs.size g cdg :: X.stack) X.prog X.w H1 s1 Q E) ?_ fun r s' hq => ?_))
  · refine PySem.W.kla_callFunE hr.r.depth of1 rfl L.co L.gen rfl ⟨c', oc, vs, t, rfl, hoc, hdc, hvc⟩ ?_
    have hb2 : bindArgs (PySem.W.kla_fn "<lambda>" (X.env.qual ++ "<lambda>") params body scope (cloFrom X.env.cells scope.names []) pm (.ref c') ctv) ⟨[] ++ [], []⟩ = pure [] := hbind
    rw [hb2]
    refine wpAny_pure (wpAny_newFunctionEnv (fun y hy => (L.own y hy).2) (fun y hy => absurd hy (by simp)) (fun h1 hns hsb => ⟨I1.nolimit.fresh _ hsb, ?_⟩) L.kind)
    have kp : ∀ b o, s1.heap.get? b = some o → h1.get? b = some o := fun b o e => hsb.extBut b o (Nat.ne_of_lt (Heap.lt_size e)) (Heap.get?_push_of_some _ e)
    have J := lam_start2 (E := E) (f := f) (c' := c') (tk := s1.toks + 0) I L I1.env0 hr.r.hd un hns kp
    exact PySem.W.kla_codeExpr (wpAny_mono ((hbody _ _ s1 H1 E (hr.deeper _)).run [] _ _ H1 Q J ht) (fun v s2 ⟨w', H2, J2, rv, q⟩ => ⟨w', H2, J2.os, J2.bare, J2.base, J2.hok, rv, q⟩) fun e s2 hq => hq)
  · match r, hq with
    | .error e, hq => exact tk e s' (XE.of_call I1 hW hq)
    | .ok (.ret u), hq => exact I1.after hq
    | .ok .next, hq => exact False.elim hq
    | .ok .brk, hq => exact False.elim hq
    | .ok .cont, hq => exact False.elim hq
/-- the def that calls what it got: TT: what it makes of the lambda's reading -/
def GivesG (X : Cx) (Ng : List Str) (x : Str) (sg : Scope) (g : Addr) (cdg : Value) (bg : List Stmt) (a : Str) (q : Str) (TT : (XK → Hp → VK → Prop) → Hp → VK → Prop) : Prop :=
  ∀ (f c' : Addr) (s : Shared) (H : Hp) (Q : VK) (tl : XK → Hp → VK → Prop),
    (∀ (W : WX) (pn : List (Addr × Obj)) (xe : Value → Shared → Prop) (p1 p2 : Pos), Takes ((cxOf C8.CX0 X.prog X.w X.K X.mg X.base Ng x sg g cdg X.A X.stack s H C8.E0).tr pn xe) W →
      PE ((cxOf C8.CX0 X.prog X.w X.K X.mg X.base Ng x sg g cdg X.A X.stack s H C8.E0).tr pn xe) (.Call (.Name a p1) [] [] p2) (fun σZ HZ Q => σZ[0]? = some (some (.ref f)) ∧ HZ c' = some (CodeO c' q) ∧ ∃ E : XK, (∀ cls d H', E cls d H' → W cls d σZ H') ∧ tl E HZ Q)) →
    H c' = some (CodeO c' q) → TT tl H Q → ∃ t, PSs (cxOf C8.CX0 X.prog X.w X.K X.mg X.base Ng x sg g cdg X.A X.stack s H C8.E0).nox bg t ∧ t { nx := fun _ H' => Q .non H', rt := Q } (L2.start Ng [.ref f]) H
/-- x(lambda: body) -/
theorem pe_lamcallG {T : List (Addr × Str)} {TT : (XK → Hp → VK → Prop) → Hp → VK → Prop} {x a : Str} {g c Pt : Addr} {k : Nat} {st : Stmt} {fd : FuncData} {Ng : List Str} {params : Arguments} {body : Expr} {scope : Scope} {t : XK → TE} {p lpos pos : Pos}
    (hg : Gl X x) (hm : X.mg x = some (.ref g)) (F : Fun X.K x x st g fd) (hb : L2.Binds X.K fd [a] []) (Sg : FnScope Ng [a] (defScope st)) (hNg : Ng[0]? = some a) (hva : Vis (defScope st) a)
    (hG : ∀ cdv, GivesG X Ng x (defScope st) g cdv (defBody st) a (X.env.qual ++ "<lambda>") TT) (TB : TabB X.base X.mg c Pt) (hcode : X.env.code = .ref c) (hmT : (Pt, X.env.qual ++ "<lambda>") ∈ T) (hu : ∀ p ∈ T, p.1 = Pt → p.2 = X.env.qual ++ "<lambda>")
    (hr : RoomG (k + 2) X.A) (L : LamS X.env.scope scope) (hdef : defaultsOf params X.env = ([], []))
    (hbind : ∀ (q : Str) (cl : List (Str × Addr)) (pm cv ctv : Value), bindArgs (PySem.W.kla_fn "<lambda>" q params body scope cl pm cv ctv) ⟨[], []⟩ = pure [])
    (hbody : ∀ (A : Around) (outer : List Env) (s : Shared) (H : Hp) (E : XK) (f c' : Addr), RoomG k (A.deeper (lamEnv X scope s.heap.objs.size f c')) → PE (lamCx X A outer s H E scope f c') body (t E))
    (hdb : (x == ("__debug__" : Str)) = false := by decide) (hd : (a == ("__debug__" : Str)) = false := by decide) (hcd : (a == ("__classdict__" : Str)) = false := by decide) :
    PE X (.Call (.Name x p) [.Lambda params body scope lpos] [] pos) (tLam T TT t) := by
  obtain ⟨oc, od, kV, doc, pm, an, cdv, ct, osl, rfl, lk, hcg⟩ := F.ex
  refine ⟨fun pins s σ H Q I ⟨hT, h⟩ => wpAny_Call_Name_kw (ld_glob I hg hm ?_ hdb)⟩
  refine PySem.W.callWith_K (h₀ := X.base) I.ok.mod.kin F.kp ?_ (by rfl) (by rfl)
  refine Calls.spliced_cons (lam_make2 I TB hcode hmT hu hT hdef (L.has I.ok) fun f c' pm' ctv H1 s1 I1 eN T1 hf hfn hfr hco => Calls.spliced_nil ⟨I1.kIn, ?_⟩)
  refine wpAny_call (codeAny_mono (R := CR C8.CX0 X.stack X.prog X.w H1 s1 Q C8.E0) (run_ofS (N := Ng) (ps := [a]) (us := [.ref f]) (vs := [.ref f]) lk hcg Sg hr.r I1.env0 (hb s1 [.ref f] I1.kIn rfl) (.cons rfl .nil) rfl fun _ => ?_) fun r s2 hq => ?_)
  · obtain ⟨t2, h2, q2⟩ := hG cdv f c' s1 H1 Q (fun E H' Q' => t E σ H' Q') (fun W pn xe p1 p2 tk => pe_actG (i := 0) I1 L hf hfn hfr (hbind _ _ _ _ _) tk (hr.deeper _) (fun A outer s H E hr2 => hbody A outer s H E f c' hr2) hNg hva hd hcd) hco (h H1 eN T1)
    exact ⟨t2, h2.nox, q2⟩
  · match r, hq with
    | .error e, hq => exact (show False from hq).elim
    | .ok (.ret u), hq => exact I1.after hq
    | .ok .next, hq => exact False.elim hq
    | .ok .brk, hq => exact False.elim hq
    | .ok .cont, hq => exact False.elim hq
end
end DL
end DLM
section DLN
set_option Elab.async false
set_option linter.all false
set_option maxRecDepth 100000
set_option maxHeartbeats 2000000
/-! DLN: layer L: the state of a def that makes lambdas: its tables of code objects are known -/
namespace DL
open PySem PySem.Spec PyProof.Rows L2 LamX
/-- no own dict -/
def noDct (ρ : Sv) : Prop := ∀ (i : Nat) (kvs : List (NestedKey × PyData)), ρ[i]? ≠ some (some (.dct kvs))
def noDctB : Sv → Bool
  | [] => true
  | some (.dct _) :: _ => false
  | _ :: ρ => noDctB ρ
theorem noDct_of : ∀ {ρ : Sv}, noDctB ρ = true → noDct ρ
  | [], _, i, kvs, e => by simp at e
  | c :: ρ, h, 0, kvs, e => by
    have e : c = some (.dct kvs) := by simpa using e
    subst e
    cases h
  | c :: ρ, h, i + 1, kvs, e => by
    have h2 : noDctB ρ = true := by
      cases c with
      | none => exact h
      | some c =>
        cases c with
        | dct _ => cases h
        | dat _ => exact h
        | lst _ => exact h
    exact noDct_of h2 i kvs (by simpa using e)
theorem no_dct {ρ : Sv} (h : noDctB ρ = true := by rfl) : noDct ρ := noDct_of h
abbrev SttL := Sv → (Sv → Prop) → Prop
def rdL (P : Program) (w : World) (T : List (Addr × Str)) (S : SttL) : TS := fun D σ H => ∃ (ρ : Sv) (R : Sv → Prop), Rep P w H σ ρ ∧ Tabs T H ∧ S ρ R ∧ ∀ ρ' σ' H', R ρ' → Rep P w H' σ' ρ' → Tabs T H' → Kp H H' → D.nx σ' H'
section
variable {P : Program} {w : World} {T : List (Addr × Str)} {H H' : Hp} {σ : L2.St} {ρ : Sv} {M : Addr → Prop}
theorem Kp.refl (H : Hp) : Kp H H := ⟨fun _ _ e => e, fun _ _ _ e => e⟩
theorem Kp.trans {H1 H2 : Hp} (a : Kp H H1) (b : Kp H1 H2) : Kp H H2 := ⟨fun c x e => b.tup c x (a.tup c x e), fun c o u e => b.frz c o u (a.frz c o u e)⟩
theorem own_lst (R : Rep P w H σ ρ) (nd : noDct ρ) {b : Addr} (m : ownA σ ρ b) : ∃ xs, H b = some (.lst xs) := by
  obtain ⟨i, c, h1, h2, h3⟩ := m
  obtain ⟨a, h4, h5⟩ := R.own i c h1 h2
  rw [h3] at h4
  cases h4
  cases c with
  | dat _ => cases h2
  | dct kvs => exact absurd h1 (nd i kvs)
  | lst l => exact ⟨_, h5.choose_spec.1⟩
theorem tabs_le (R : Rep P w H σ ρ) (nd : noDct ρ) (L : Le (ownA σ ρ) H M H') (t : Tabs T H) : Tabs T H' := fun p hp => by
  obtain ⟨ps, h1, h2, h3⟩ := t p hp
  have keep : ∀ b u, H b = some u → (∀ xs, u ≠ .lst xs) → H' b = some u := fun b u e n => L.keep b u e fun m => by
    obtain ⟨xs, q⟩ := own_lst R nd m
    rw [e] at q
    exact n xs (Option.some.inj q)
  refine ⟨ps, keep _ _ h1 (fun xs z => by cases z), h2, fun pos cv hc => ?_⟩
  obtain ⟨c, e1, e2⟩ := h3 pos cv hc
  exact ⟨c, e1, keep _ _ e2 fun xs z => by
    unfold CodeO at z
    cases z⟩
end
section
variable {X : Cx} {T : List (Addr × Str)} {e : Expr} {sts rest : List Stmt} {st : Stmt} {E : Et} {Tt' : Tt} {S : Stt} {S1 S2 : SttL} {pos p1 : Pos}
theorem psl_nil : PSs X [] (rdL X.prog X.w T fun ρ R => R ρ) := PSs.imp pss_nil fun D σ H ⟨ρ, R, rep, tb, q, t⟩ => t ρ σ H q rep tb (Kp.refl H)
theorem psl_cons (h1 : PS X st (rdL X.prog X.w T S1)) (h2 : PSs X rest (rdL X.prog X.w T S2)) : PSs X (st :: rest) (rdL X.prog X.w T fun ρ R => S1 ρ fun ρ1 => S2 ρ1 R) :=
  PSs.imp (pss_cons h1 h2) fun D σ H ⟨ρ, R, rep, tb, q, t⟩ => ⟨ρ, _, rep, tb, q, fun ρ1 σ1 H1 q1 rep1 tb1 k1 => ⟨ρ1, R, rep1, tb1, q1, fun ρ2 σ2 H2 q2 rep2 tb2 k2 => t ρ2 σ2 H2 q2 rep2 tb2 (k1.trans k2)⟩⟩
theorem psl_one (h1 : PS X st (rdL X.prog X.w T S1)) : PSs X [st] (rdL X.prog X.w T S1) := pss_one h1
/-- a statement by data that goes on -/
theorem psl_ds (h : DS X st S) : PS X st (rdL X.prog X.w T fun ρ R => noDct ρ ∧ S ρ ⟨R, fun _ _ => False, fun _ => False, fun _ => False⟩) :=
  PS.imp h fun D σ H ⟨ρ, R, rep, tb, ⟨nd, hS⟩, t⟩ => ⟨ρ, _, rep, hS, ⟨fun ρ' σ' H' hR L rep' => t ρ' σ' H' hR rep' (tabs_le rep nd L.le tb) (rep.kp L.le), fun _ _ _ _ _ z => z.elim, fun _ _ _ z => z.elim, fun _ _ _ z => z.elim⟩⟩
/-- if t: .., t false -/
theorem psl_if0 {t : TS} (hc : DT X e Tt') (ha : PSs X sts t) : PS X (.If e sts [] pos) (rdL X.prog X.w T fun ρ R => noDct ρ ∧ Tt' ρ fun b ρ1 => b = false ∧ R ρ1) :=
  PS.imp (ps_if hc ha pss_nil) fun D σ H ⟨ρ, R, rep, tb, ⟨nd, hT⟩, t⟩ => ⟨ρ, _, rep, hT, fun b ρ1 H1 ⟨e1, q⟩ le rep1 => by
    subst e1
    exact iteF (t ρ1 σ H1 q rep1 (tabs_le rep nd le tb) (rep.kp le))⟩
def forL (G : Gt) (S : SttL) : List PyData → Sv → (Sv → Prop) → Prop
  | [], ρ, R => R ρ
  | d :: l, ρ, R => noDct ρ ∧ G d ρ fun ρ1 => S ρ1 fun ρ2 => forL G S l ρ2 R
theorem psl_for {tg iter : Expr} {W : Wt} {G : Gt} {gv : List Nat} (hp : PassesOwn (model X.prog X.w) X.A X.env X.xe) (hc : X.calm = true) (hi : DI X tg iter W) (hg : DG X tg gv G) (hb : PSs X sts (rdL X.prog X.w T S1))
    (hs : ∀ x, foldedSetIterable iter X.env x = pure x := by intro _; rfl) : PS X (.For tg iter sts [] pos) (rdL X.prog X.w T fun ρ R => noDct ρ ∧ W ρ fun ds ρ1 => noDct ρ1 ∧ forL G S1 ds ρ1 R) := by
  refine PS.imp (ps_for hp hc hi hg hb hs) fun D σ H ⟨ρ, R, rep, tb, ⟨nd, hW⟩, t⟩ => ⟨ρ, _, rep, hW, fun ds ρ1 H1 J ⟨nd1, hF⟩ le1 rep1 sz it => ?_⟩
  have tb1 := tabs_le rep nd le1 tb
  have k1 := rep.kp le1
  refine ⟨fun q m σ' H' => m = ds.length - q ∧ q ≤ ds.length ∧ ∃ ρ', Rep X.prog X.w H' σ' ρ' ∧ Tabs T H' ∧ Kp H1 H' ∧ forL G S1 (ds.drop q) ρ' R, ⟨ds.length, by omega, by omega, ρ1, rep1, tb1, Kp.refl H1, by simpa using hF⟩, ?_⟩
  rintro q m σ' H' ⟨rfl, hi, ρ', rep', tb', kp, hF'⟩
  by_cases hlt : q < ds.length
  · have hd : ds[q]? = some ds[q] := List.getElem?_eq_getElem hlt
    rw [List.drop_eq_getElem_cons hlt] at hF'
    obtain ⟨nd', hF'⟩ := hF'
    obtain ⟨g1, g2⟩ := it.go q _ H' hd kp
    refine .inr ⟨g1, fun σ2 H2 => ∃ ρ2, Rep X.prog X.w H2 σ2 ρ2 ∧ Tabs T H2 ∧ Kp H1 H2 ∧ forL G S1 (ds.drop (q + 1)) ρ2 R, fun σ2 H2 ⟨ρ2, a1, a2, a3, a4⟩ => ⟨ds.length - (q + 1), by omega, rfl, hlt, ρ2, a1, a2, a3, a4⟩, fun x H2 y => ?_⟩
    obtain ⟨s1, s2, hv⟩ := g2 x H2 y
    have ky : KeepT H' H2 := ⟨s1, s2⟩
    have rep2 := rep'.same s1
    have tb2 := tb'.ext fun b o e => s1 b o e
    refine ⟨ρ', ds[q], _, rep2, hv, hF', fun ρ3 σ3 H3 hS le3 rep3 off hl3 => ?_⟩
    have tb3 := tabs_le rep2 nd' le3 tb2
    have k3 := rep2.kp le3
    exact ⟨ρ3, _, rep3, tb3, hS, fun ρ4 σ4 H4 q4 rep4 tb4 k4 => ⟨ρ4, rep4, tb4, ((kp.trans ky.kp).trans k3).trans k4, q4⟩⟩
  · have e : q = ds.length := by omega
    subst e
    rw [List.drop_length] at hF'
    exact .inl ⟨it.stop H' kp, t ρ' σ' H' hF' rep' tb' (k1.trans kp)⟩
/-- statements that end with return True -/
def rdLE (P : Program) (w : World) (T : List (Addr × Str)) (S : Sv → Prop) : TS := fun D σ H => ∃ ρ : Sv, Rep P w H σ ρ ∧ Tabs T H ∧ S ρ ∧ ∀ H', D.rt (.bl true) H'
theorem psl_consR {S2 : Sv → Prop} (h1 : PS X st (rdL X.prog X.w T S1)) (h2 : PSs X rest (rdLE X.prog X.w T S2)) : PSs X (st :: rest) (rdLE X.prog X.w T fun ρ => S1 ρ S2) :=
  PSs.imp (pss_cons h1 h2) fun D σ H ⟨ρ, rep, tb, q, t⟩ => ⟨ρ, _, rep, tb, q, fun ρ1 σ1 H1 q1 rep1 tb1 _ => ⟨ρ1, rep1, tb1, q1, t⟩⟩
theorem psl_retT {j} : PSs X [.Return (some (.Constant (.bool true) j p1)) pos] (rdLE X.prog X.w T fun _ => True) :=
  PSs.imp (pss_one (ps_ret pe_bl)) fun D σ H ⟨ρ, rep, tb, q, t⟩ => t H
end
end DL
end DLN
section P0
set_option Elab.async false
set_option linter.all false
set_option maxRecDepth 100000
set_option maxHeartbeats 4000000
/-! P0: the text, encodings, built-in names -/
namespace SH
open PySem PySem.Spec PyProof.Rows L2 DL
abbrev topS (i : Nat) : Stmt := PySem.Challenge.pw_sparehop_k26_whole_main_reached_exactly.main.body.getD i (.Pass ⟨0, 0, 0, 0⟩)
/-- built-in names are still the built-in ones -/
structure Blt (mg : Str → Option Value) : Prop where
  len : mg "len" = none
  range : mg "range" = none
  tuple : mg "tuple" = none
  list : mg "list" = none
  int : mg "int" = none
  bool : mg "bool" = none
  str : mg "str" = none
  abs : mg "abs" = none
  min : mg "min" = none
  sorted : mg "sorted" = none
  isinstance : mg "isinstance" = none
  enumerate : mg "enumerate" = none
  zip : mg "zip" = none
  repr : mg "repr" = none
  dict : mg "dict" = none
  LETTERS : ∃ t, mg "LETTERS" = some (.str "abcdefghijklmnopqrstuvwxyz" t)
  MOST : ∃ t, mg "MOST" = some (.int 2000 t)
theorem set2_ok {i j : Nat} : ∀ (vs : List V) (σ : L2.St) (H : Hp) (Q : L2.St → Hp → Prop), vs.length = 2 → Q (setAll [i, j] vs σ) H → gCons (gName i) (gCons (gName j) gNil) vs σ H Q
  | [v, u], σ, H, Q, _, q => ⟨v, _, rfl, u, _, rfl, rfl, q⟩
theorem set3_ok {i j l : Nat} : ∀ (vs : List V) (σ : L2.St) (H : Hp) (Q : L2.St → Hp → Prop), vs.length = 3 → Q (setAll [i, j, l] vs σ) H → gCons (gName i) (gCons (gName j) (gCons (gName l) gNil)) vs σ H Q
  | [v, u, w], σ, H, Q, _, q => ⟨v, _, rfl, u, _, rfl, w, _, rfl, rfl, q⟩
end SH
end P0
section P1
set_option Elab.async false
set_option linter.all false
set_option maxRecDepth 100000
set_option maxHeartbeats 4000000
/-! P1: encodings; words: common_length, reduced, joined, way -/
namespace SH
open PySem PySem.Spec PyProof.Rows L2 DL SM

/-! ### encodings -/
structure Okd {α : Type} [DecidableEq α] (enc : α → PyData) (k : Nat) : Prop where
  eq : ∀ a b, PyData.eqv (enc a) (enc b) = decide (a = b)
  dep : ∀ a, (enc a).depth ≤ k
abbrev eN (n : Nat) : PyData := .int (n : Int)
abbrev eT {α : Type} (enc : α → PyData) (l : List α) : PyData := .tuple (l.map enc)
abbrev eL {α : Type} (enc : α → PyData) (l : List α) : PyData := .list (l.map enc)
abbrev e2 {α β : Type} (f : α → PyData) (g : β → PyData) (p : α × β) : PyData := .tuple [f p.1, g p.2]
section
variable {α β : Type} [DecidableEq α] [DecidableEq β] {f : α → PyData} {g : β → PyData} {k m : Nat}
theorem okd_str : Okd PyData.str 0 := ⟨PySem.W.Datum.eqv, fun _ => Nat.le_refl _⟩
theorem okd_nat : Okd eN 0 := ⟨fun a b => by
  have h := PySem.W.Datum.eqv (a : Int) (b : Int)
  show PyData.eqv (.int _) (.int _) = _
  refine h.trans (decide_eq_decide.mpr ?_)
  omega, fun _ => Nat.le_refl _⟩
theorem all_map (h : Okd f k) : ∀ xs ys : List α, PyData.eqvAll (xs.map f) (ys.map f) = decide (xs = ys)
  | [], [] => by simp only [List.map_nil, PyData.eqvAll, decide_true]
  | [], _ :: _ => by simp [PyData.eqvAll]
  | _ :: _, [] => by simp [PyData.eqvAll]
  | x :: xs, y :: ys => by
    rw [List.map_cons, List.map_cons, PyData.eqvAll, h.eq, all_map h xs ys, ← Bool.decide_and]
    exact decide_eq_decide.mpr (by rw [List.cons.injEq])
theorem dep_map (h : Okd f k) : ∀ xs : List α, PyData.depthAll (xs.map f) ≤ k
  | [] => Nat.zero_le _
  | x :: xs => by rw [List.map_cons, PyData.depthAll]; exact Nat.max_le.mpr ⟨h.dep x, dep_map h xs⟩
theorem okd_T (h : Okd f k) : Okd (eT f) (k + 1) :=
  ⟨fun a b => by simp only [PyData.eqv]; exact all_map h a b, fun a => by simp only [PyData.depth]; exact Nat.succ_le_succ (dep_map h a)⟩
theorem okd_L (h : Okd f k) : Okd (eL f) (k + 1) :=
  ⟨fun a b => by simp only [PyData.eqv]; exact all_map h a b, fun a => by simp only [PyData.depth]; exact Nat.succ_le_succ (dep_map h a)⟩
theorem okd_2 (h : Okd f k) (h2 : Okd g m) : Okd (e2 f g) (k + m + 1) :=
  ⟨fun p q => by
    simp only [PyData.eqv, PyData.eqvAll]
    rw [h.eq, h2.eq, Bool.and_true, ← Bool.decide_and]
    exact decide_eq_decide.mpr ⟨fun e => Prod.ext e.1 e.2, fun e => by rw [e]; exact ⟨rfl, rfl⟩⟩, fun p => by
    simp only [PyData.depth, PyData.depthAll]
    have := h.dep p.1
    have := h2.dep p.2
    omega⟩
theorem any_e (h : Okd f k) (xs : List α) (x : α) : ((xs.map f).any fun d => PyData.eqv d (f x)) = decide (x ∈ xs) := by
  induction xs with
  | nil => simp
  | cons y ys ih =>
    rw [List.map_cons, List.any_cons, h.eq, ih, ← Bool.decide_or]
    exact decide_eq_decide.mpr (by rw [List.mem_cons]; exact or_congr_left ⟨Eq.symm, Eq.symm⟩)
end
abbrev eW : List Str → PyData := eT .str
abbrev eEdge : List Str × Str → PyData := e2 eW .str
theorem okW : Okd eW 1 := okd_T okd_str
theorem okEdge : Okd eEdge 2 := okd_2 okW okd_str

theorem Okd.ne {α : Type} [DecidableEq α] {f : α → PyData} {k : Nat} (h : Okd f k) (a b : α) : (!PyData.eqv (f a) (f b)) = decide (a ≠ b) := by rw [h.eq, ← decide_not]
/-! ### small facts -/
theorem ife {b : Bool} {p : Prop} {dp : Decidable p} {A B : Prop} (e : b = decide p) (h1 : p → A) (h2 : ¬p → B) : if b = true then A else B := by
  subst e
  by_cases h : p
  · rw [if_pos (by simpa using h)]; exact h1 h
  · rw [if_neg (by simpa using h)]; exact h2 h
theorem atI_map {α : Type} {f : α → PyData} {l : List α} {i : Nat} {a : α} (h : l[i]? = some a) : atI (l.map f) (i : Int) = some (f a) :=
  atI_nat (by rw [List.getElem?_map, h]; rfl)
theorem atI_end {α : Type} {f : α → PyData} {l : List α} {a : α} (h : l.getLast? = some a) : atI (l.map f) (-1) = some (f a) := by
  obtain ⟨r, rfl⟩ := List.getLast?_eq_some_iff.mp h
  rw [List.map_append]
  exact atI_last _ _
theorem cut_to {α : Type} (l : List α) (n : Nat)  : DL.cutD l none (some (n : Int)) = l.take n := by
  unfold DL.cutD
  rw [HT.sIx_none, HT.sIx_nat, List.drop_zero, Nat.sub_zero, ← List.take_eq_take_min]
theorem cut_from {α : Type} (l : List α) (n : Nat)  : DL.cutD l (some (n : Int)) none = l.drop n := by
  unfold DL.cutD
  rw [HT.sIx_none, HT.sIx_nat]
  by_cases h : n ≤ l.length
  · rw [Nat.min_eq_left h, List.take_of_length_le (by rw [List.length_drop]; omega)]
  · rw [Nat.min_eq_right (by omega), List.drop_of_length_le (by omega), List.drop_of_length_le (by omega), List.take_nil]
theorem big {n : Nat} (h : n ≤ 1000) : n ≤ sizeLine := Nat.le_trans h (by decide)
theorem lt_ok {i : Nat} {ρ : Sv} (h : Nat.ble (i + 1) ρ.length = true := by rfl) : i < ρ.length := Nat.le_of_ble_eq_true h
theorem le_ok {n m : Nat} (h : Nat.ble n m = true := by rfl) : n ≤ m := Nat.le_of_ble_eq_true h
theorem ifd {p : Prop} [Decidable p] {A B : Prop} (h1 : p → A) (h2 : ¬p → B) : if (decide p) = true then A else B := by
  by_cases h : p
  · rw [if_pos (by simpa using h)]; exact h1 h
  · rw [if_neg (by simpa using h)]; exact h2 h

theorem ift {p : Prop} [Decidable p] {A B : Prop} (h : p) (q : A) : if (decide p) = true then A else B := ifd (fun _ => q) fun n => absurd h n
theorem iff' {p : Prop} [Decidable p] {A B : Prop} (h : ¬p) (q : B) : if (decide p) = true then A else B := ifd (fun y => absurd y h) fun _ => q
theorem ifnt {p : Prop} [Decidable p] {A B : Prop} (h : p) (q : B) : if (!decide p) = true then A else B := by
  rw [if_neg (by simpa using h)]; exact q
theorem ifnf {p : Prop} [Decidable p] {A B : Prop} (h : ¬p) (q : A) : if (!decide p) = true then A else B := by
  rw [if_pos (by simpa using h)]; exact q
theorem ife_t {b : Bool} {p : Prop} {dp : Decidable p} {A B : Prop} (e : b = decide p) (h : p) (q : A) : if b = true then A else B := ife e (fun _ => q) fun n => absurd h n
theorem ife_f {b : Bool} {p : Prop} {dp : Decidable p} {A B : Prop} (e : b = decide p) (h : ¬p) (q : B) : if b = true then A else B := ife e (fun y => absurd y h) fun _ => q
/-- an outcome put as another -/
theorem rl {α : Type} {l l' : α} {F : α → Prop} (e : l = l') (q : F l') : F l := by rw [e]; exact q
/-- a result that is a truth value -/
theorem rb {b : Bool} {p : Prop} {dp : Decidable p} {F : Bool → Prop} (e : b = decide p) (q : F (decide p)) : F b := by rw [e]; exact q
section
variable {P : Program} {w : World} {K : PySem.W.Frag} {mg : Str → Option Value} {base : Heap}
/-! ### common_length -/
abbrev Fcommon_length : Pr := fun ds R => ∃ u v : List Str, ds = [.d (eW u), .d (eW v)] ∧ u.length ≤ 1000 ∧ v.length ≤ 1000 ∧ R (.d (eN (clen u v)))
theorem lencommon_length : ∀ ds R, Fcommon_length ds R → ds.length = 2 := by
  rintro ds R ⟨u, v, rfl, _⟩; rfl
/-! common_length: slots 0 one, 1 other, 2 many -/
abbrev nmcommon_length : List Str := ["one", "other", "many"]
theorem sccommon_length : FnScope nmcommon_length ["one", "other"] (defScope (topS 21)) := ⟨rfl, rfl, rfl, by decide +kernel, rfl, by decide +kernel, by decide +kernel⟩
theorem okcommon_length {f : Addr} {fd : FuncData} {k : Nat} (F : Fun K "common_length" "common_length" (topS 21) f fd) (gx : mg "common_length" = some (.ref f)) (b : Binds K fd ["one", "other"] []) (M : Blt mg)  :
    Cal P w K mg base (k + 1) "common_length" 2 Fcommon_length := by
  refine cal_of F gx b sccommon_length rfl lencommon_length fun cdv A outer s H E hr => ⟨_, (dss_cons (ds_set (i := 2) sccommon_length.nd rfl (.inl rfl) de_int) (dss_cons (ds_while PassesOwn.never (dt_w (dw_and (dt_cmp od_lt (de_var 2) (de_min rfl rfl rfl M.min (da_cons (de_len rfl rfl M.len (da_cons (de_var 0) da_nil)) (da_cons (de_len rfl rfl M.len (da_cons (de_var 1) da_nil)) da_nil)))) (dw_and1 (dt_cmp (od_eq hr.hu) (de_ix (de_var 0) (de_var 2)) (de_ix (de_var 1) (de_var 2)))))) (dss_one (ds_augAdd (i := 2) sccommon_length.nd rfl (.inl rfl) de_int))) (dss_one (ds_ret (de_var 2))))), ?_⟩
  rintro ds R ⟨u, v, rfl, hu, hv, q⟩
  refine ⟨_, rfl, lt_ok, fun m ρ => ∃ k : Nat, k ≤ clen u v ∧ m = clen u v - k ∧ ρ = [some (.dat (.d (eW u))), some (.dat (.d (eW v))), some (.dat (.d (eN k)))], ⟨_, 0, Nat.zero_le _, rfl, rfl⟩, ?_⟩
  rintro m ρ ⟨k, hk, rfl, rfl⟩
  have l1 := clen_le1 u v
  have l2 := clen_le2 u v
  refine ⟨_, rfl, ifd (fun h => ?_) fun h => ?_⟩
  · have h1 : k < u.length ∧ k < v.length := by
      simp only [List.length_map] at h
      split at h <;> omega
    have e1 := List.getElem?_eq_getElem h1.1
    have e2 := List.getElem?_eq_getElem h1.2
    refine ⟨_, atI_map e1, _, atI_map e2, Nat.zero_le 60, _, rfl, ife (okd_str.eq _ _) (fun he => ?_) fun he => ?_⟩
    · have hlt : k < clen u v := by
        rcases Nat.lt_or_eq_of_le hk with h2 | h2
        · exact h2
        · subst h2; exact absurd he (clen_end u v _ _ e1 e2)
      exact ⟨_, rfl, _, rfl, lt_ok, _, by omega, k + 1, by omega, rfl, rfl⟩
    · have hge : k = clen u v := by
        rcases Nat.lt_or_eq_of_le hk with h2 | h2
        · obtain ⟨a, q1, q2⟩ := clen_lt u v k h2
          rw [e1] at q1; rw [e2] at q2; cases q1
          exact absurd (Option.some.inj q2).symm he
        · exact h2
      subst hge
      exact ⟨_, _, rfl, q⟩
  · have hge : k = clen u v := by
      simp only [List.length_map] at h
      split at h <;> omega
    subst hge
    exact ⟨_, _, rfl, q⟩

/-! ### reduced, joined, way -/
abbrev Freduced : Pr := fun ds R => ∃ u : List Str, ds = [.d (eW u)] ∧ u.length ≤ 1000 ∧ R (.d (eW (red u)))
theorem lenreduced : ∀ ds R, Freduced ds R → ds.length = 1 := by
  rintro ds R ⟨u, rfl, _⟩; rfl
/-! reduced: slots 0 word, 1 found, 2 name -/
abbrev nmreduced : List Str := ["word", "found", "name"]
theorem screduced : FnScope nmreduced ["word"] (defScope (topS 19)) := ⟨rfl, rfl, rfl, by decide +kernel, rfl, by decide +kernel, by decide +kernel⟩
theorem okreduced {f : Addr} {fd : FuncData} {k : Nat} (F : Fun K "reduced" "reduced" (topS 19) f fd) (gx : mg "reduced" = some (.ref f)) (b : Binds K fd ["word"] []) (M : Blt mg)  :
    Cal P w K mg base (k + 1) "reduced" 1 Freduced := by
  refine cal_of F gx b screduced rfl lenreduced fun cdv A outer s H E hr => ⟨_, (dss_cons (ds_set (i := 1) screduced.nd rfl (.inl rfl) (de_lst da_nil)) (dss_cons (ds_for PassesOwn.never rfl (di_tup (de_var 0)) (dg_name (i := 2) screduced.nd rfl (.inl rfl)) (dss_one (ds_if (dt_w (dw_and (dt_cmp (od_ne hr.hu) (de_var 1) (de_lst da_nil)) (dw_and1 (dt_cmp (od_eq hr.hu) (de_ix (de_var 1) (de_neg de_int)) (de_var 2))))) (dss_one (ds_expr (de_pop rfl (de_var 1)))) (dss_one (ds_expr (de_append rfl (de_var 1) (da_cons (de_var 2) da_nil))))))) (dss_one (ds_ret (de_tupc rfl rfl M.tuple (da_cons (de_var 1) da_nil)))))), ?_⟩
  rintro ds R ⟨u, rfl, hu, q⟩
  refine ⟨_, rfl, le_ok, _, rfl, lt_ok, _, rfl, for_inv (fun i ρ => ∃ c l, l = (red (u.take i)).map .str ∧ ρ = [some (.dat (.d (eW u))), some (.lst l), c]) ⟨_, _, rfl, rfl⟩ ?_ ?_⟩
  · rintro i a ρ hi ⟨c, _, rfl, rfl⟩ nx hn
    have ht : u.take (i + 1) = u.take i ++ [a] := by rw [List.take_succ, hi]; rfl
    have hr1 : red (u.take (i + 1)) = push (red (u.take i)) a := by rw [ht]; unfold red; rw [List.foldl_append]; rfl
    have hl : (red (u.take i)).length ≤ 1000 := Nat.le_trans (red_len _) (by rw [List.length_take]; omega)
    generalize he : red (u.take i) = f at hr1 hl
    refine ⟨lt_ok, _, rfl, le_ok, Nat.le_trans (Nat.min_le_right _ _) (by decide), _, rfl, ife ((okd_L okd_str).ne f []) (fun h => ?_) fun h => ?_⟩
    · obtain ⟨z, hz⟩ : ∃ z, f.getLast? = some z := by
        cases e : f.getLast? with
        | none => exact absurd (List.getLast?_eq_none_iff.mp e) h
        | some z => exact ⟨z, rfl⟩
      refine ⟨_, rfl, _, atI_end hz, Nat.zero_le 60, _, rfl, ife (okd_str.eq _ _) (fun he => ?_) fun he => ?_⟩
      · have hd : (f.map PyData.str).getLast? = some (.str z) := by rw [List.getLast?_map, hz]; rfl
        refine ⟨_, _, rfl, rfl, _, by rw [← List.getLast?_eq_getElem?]; exact hd, hn _ ⟨_, _, ?_, rfl⟩⟩
        rw [hr1, push, if_pos (by rw [hz, he]), ← List.map_dropLast]
      · refine ⟨_, _, rfl, _, rfl, _, rfl, by rw [List.length_map]; exact Nat.lt_of_le_of_lt hl (by decide), hn _ ⟨_, _, ?_, rfl⟩⟩
        rw [hr1, push, if_neg (by rw [hz]; exact fun e => he (Option.some.inj e)), List.map_append]; rfl
    · have h0 : f = [] := Classical.not_not.mp h
      refine ⟨_, _, rfl, _, rfl, _, rfl, by rw [List.length_map]; exact Nat.lt_of_le_of_lt hl (by decide), hn _ ⟨_, _, ?_, rfl⟩⟩
      rw [hr1, push, if_neg (by rw [h0]; simp), List.map_append]; rfl
  · rintro ρ ⟨c, _, rfl, rfl⟩
    rw [List.take_length]
    exact ⟨_, _, rfl, q⟩
abbrev Fjoined : Pr := fun ds R => ∃ u v : List Str, ds = [.d (eW u), .d (eW v)] ∧ u.length + v.length ≤ 1000 ∧ R (.d (eW (red (u ++ v))))
theorem lenjoined : ∀ ds R, Fjoined ds R → ds.length = 2 := by
  rintro ds R ⟨u, v, rfl, _⟩; rfl
/-! joined: slots 0 first, 1 second -/
abbrev nmjoined : List Str := ["first", "second"]
theorem scjoined : FnScope nmjoined ["first", "second"] (defScope (topS 20)) := ⟨rfl, rfl, rfl, by decide +kernel, rfl, by decide +kernel, by decide +kernel⟩
theorem okjoined {f : Addr} {fd : FuncData} {k : Nat} (F : Fun K "joined" "joined" (topS 20) f fd) (gx : mg "joined" = some (.ref f)) (b : Binds K fd ["first", "second"] []) (M : Blt mg) (Creduced : Cal P w K mg base k "reduced" 1 Freduced) :
    Cal P w K mg base (k + 1) "joined" 2 Fjoined := by
  refine cal_of F gx b scjoined rfl lenjoined fun cdv A outer s H E hr => ⟨_, (dss_one (ds_ret (de_fn Creduced hr (Nat.le_refl _) rfl (da_cons (de_op od_add (de_var 0) (de_var 1)) da_nil)))), ?_⟩
  rintro ds R ⟨u, v, rfl, hl, q⟩
  refine ⟨by rw [List.length_map, List.length_map]; exact big hl, _, rfl, u ++ v, by rw [eW, eT, List.map_append], by rw [List.length_append]; exact hl, _, _, rfl, q⟩
abbrev eWay (l : List (List Str × Str)) : PyData := eT eEdge l
abbrev Fway : Pr := fun ds R => ∃ u v : List Str, ds = [.d (eW u), .d (eW v)] ∧ u.length ≤ 1000 ∧ v.length ≤ 1000 ∧ R (.d (eWay (way u v)))
theorem lenway : ∀ ds R, Fway ds R → ds.length = 2 := by
  rintro ds R ⟨u, v, rfl, _⟩; rfl
/-! way: slots 0 one, 1 other, 2 many, 3 up, 4 at -/
abbrev nmway : List Str := ["one", "other", "many", "up", "at"]
theorem scway : FnScope nmway ["one", "other"] (defScope (topS 22)) := ⟨rfl, rfl, rfl, by decide +kernel, rfl, by decide +kernel, by decide +kernel⟩
theorem okway {f : Addr} {fd : FuncData} {k : Nat} (F : Fun K "way" "way" (topS 22) f fd) (gx : mg "way" = some (.ref f)) (b : Binds K fd ["one", "other"] []) (M : Blt mg) (Ccommon_length : Cal P w K mg base k "common_length" 2 Fcommon_length) :
    Cal P w K mg base (k + 1) "way" 2 Fway := by
  refine cal_of F gx b scway rfl lenway fun cdv A outer s H E hr => ⟨_, (dss_cons (ds_set (i := 2) scway.nd rfl (.inl rfl) (de_fn Ccommon_length hr (Nat.le_refl _) rfl (da_cons (de_var 0) (da_cons (de_var 1) da_nil)))) (dss_cons (ds_setLc (i := 3) rfl scway.nd rfl rfl (sw_true rfl rfl rfl (by decide +kernel)) (di_range3 rfl rfl M.range (da_cons (de_op od_sub (de_len rfl rfl M.len (da_cons (de_var 0) da_nil)) de_int) (da_cons (de_op od_sub (de_var 2) de_int) (da_cons (de_neg de_int) da_nil)))) (blkOk_by (own := [("at", 4)]) (N := nmway) (sc := defScope (topS 22)) (by decide +kernel)) (fun _ _ _ _ _ => (dg_name (i := 4) scway.nd rfl (.inl rfl))) (fun _ _ _ _ _ => dts_nil) (fun _ _ _ _ _ => (de_tup (da_cons (de_sl (de_var 0) do_no (do_yes (de_var 4))) (da_cons (de_ix (de_var 0) (de_var 4)) da_nil))))) (dss_one (ds_ret (de_tupc rfl rfl M.tuple (da_cons (de_op od_add (de_var 3) (de_lc rfl scway.nd (di_range2 rfl rfl M.range (da_cons (de_var 2) (da_cons (de_len rfl rfl M.len (da_cons (de_var 1) da_nil)) da_nil))) (blkOk_by (own := [("at", 4)]) (N := nmway) (sc := defScope (topS 22)) (by decide +kernel)) (fun _ _ _ _ _ => (dg_name (i := 4) scway.nd rfl (.inl rfl))) (fun _ _ _ _ _ => dts_nil) (fun _ _ _ _ _ => (de_tup (da_cons (de_sl (de_var 1) do_no (do_yes (de_var 4))) (da_cons (de_ix (de_var 1) (de_var 4)) da_nil)))))) da_nil)))))), ?_⟩
  rintro ds R ⟨u, v, rfl, hu, hv, q⟩
  have l1 := clen_le1 u v
  have l2 := clen_le2 u v
  refine ⟨_, rfl, u, v, rfl, hu, hv, _, rfl, lt_ok, True.intro, True.intro, _, rfl, _, _, rfl, ?_⟩
  rw [List.length_map]
  dsimp only
  have e1 : ((u.length : Int) - 1 - ((clen u v : Int) - 1)).toNat = u.length - clen u v := by omega
  rw [e1]
  refine ⟨by omega, by omega, by omega, by omega, free_ok, ?_⟩
  refine lc_Nm (encB := eEdge) (fun k => (u.take (u.length - 1 - k), u.getD (u.length - 1 - k) default)) lt_ok rfl (fun k hk K h => ?_) ?_
  · have hk := List.mem_range.mp hk
    have e2 : (u.length : Int) - 1 - (k : Int) = ((u.length - 1 - k : Nat) : Int) := by omega
    have l3 : u.length - 1 - k < u.length := by omega
    have gA := atI_map (f := PyData.str) (List.getElem?_eq_getElem l3)
    have gC := cut_to (u.map PyData.str) (u.length - 1 - k)
    have gE : u.getD (u.length - 1 - k) default = u[u.length - 1 - k] := by rw [List.getD_eq_getElem?_getD, List.getElem?_eq_getElem l3]; rfl
    rw [← e2, ← List.map_take] at gC
    rw [← e2] at gA
    refine ⟨_, rfl, _, gA, _, rfl, le_ok, ?_⟩
    rw [gC, ← gE]
    exact h
  rw [up_eq u _ _ l1]
  refine ⟨_, rfl, lt_ok, _, _, rfl, ?_⟩
  rw [List.length_map]
  have e3 : ((v.length : Int) - (clen u v : Int)).toNat = v.length - clen u v := by omega
  rw [e3]
  refine ⟨by omega, by omega, by omega, by omega, free_ok, ?_⟩
  refine lc_Nm (encB := eEdge) (fun k => (v.take (clen u v + k), v.getD (clen u v + k) default)) lt_ok rfl (fun k hk K h => ?_) ?_
  · have hk := List.mem_range.mp hk
    have e2 : (clen u v : Int) + (k : Int) = ((clen u v + k : Nat) : Int) := by omega
    have l3 : clen u v + k < v.length := by omega
    have gA := atI_map (f := PyData.str) (List.getElem?_eq_getElem l3)
    have gC := cut_to (v.map PyData.str) (clen u v + k)
    have gE : v.getD (clen u v + k) default = v[clen u v + k] := by rw [List.getD_eq_getElem?_getD, List.getElem?_eq_getElem l3]; rfl
    rw [← e2, ← List.map_take] at gC
    rw [← e2] at gA
    refine ⟨_, rfl, _, gA, _, rfl, le_ok, ?_⟩
    rw [gC, ← gE]
    exact h
  rw [down_eq v _ _ l2]
  refine ⟨?_, _, _, rfl, ?_⟩
  · rw [List.length_map, List.length_map, List.length_reverse, edg_len, edg_len, List.length_drop, List.length_drop]
    exact Nat.le_trans (m := 2000) (by omega) (by decide)
  · rw [← List.map_append]
    exact q
end
end SH
end P1
section P2
set_option Elab.async false
set_option linter.all false
set_option maxRecDepth 100000
set_option maxHeartbeats 4000000
/-! P2: forms, fleets -/
namespace SH
open PySem PySem.Spec PyProof.Rows L2 DL SM
structure Flt where
  names : List Str
  places : List Nat
  rs : List Str
abbrev eFl (f : Flt) : PyData := .tuple [eT .str f.names, eT eN f.places, eT .str f.rs]
abbrev Lease := Str × Nat
abbrev eLs : Lease → PyData := e2 .str eN
theorem okLs : Okd eLs 1 := okd_2 okd_str okd_nat
structure NameOk (x : Str) : Prop where
  lo : 1 ≤ x.length
  hi : x.length ≤ 12
  all : ∀ c ∈ x.cps.toList, (Builtin.Str.occurrences "abcdefghijklmnopqrstuvwxyz" ⟨#[c]⟩ 0 (Str.length "abcdefghijklmnopqrstuvwxyz") 1).isEmpty = false
  sm : ∀ c ∈ x.cps.toList, c < 128
structure FlOk (f : Flt) : Prop where
  nlen : f.names.length ≤ 100
  rlen : f.rs.length ≤ 100
  nd : f.names.Nodup
  mem : ∀ s ∈ f.rs, s ∈ f.names
  nm : ∀ s ∈ f.names, NameOk s
section
variable {P : Program} {w : World} {K : PySem.W.Frag} {mg : Str → Option Value} {base : Heap}
abbrev Fis_integer : Pr := fun ds R => ∃ i : Int, ds = [.d (.int i)] ∧ R (.d (.bool true))
theorem lenis_integer : ∀ ds R, Fis_integer ds R → ds.length = 1 := by
  rintro ds R ⟨i, rfl, _⟩; rfl
/-! is_integer: slots 0 thing -/
abbrev nmis_integer : List Str := ["thing"]
theorem scis_integer : FnScope nmis_integer ["thing"] (defScope (topS 8)) := ⟨rfl, rfl, rfl, by decide +kernel, rfl, by decide +kernel, by decide +kernel⟩
theorem okis_integer {f : Addr} {fd : FuncData} {k : Nat} (F : Fun K "is_integer" "is_integer" (topS 8) f fd) (gx : mg "is_integer" = some (.ref f)) (b : Binds K fd ["thing"] []) (M : Blt mg)  :
    Cal P w K mg base (k + 1) "is_integer" 1 Fis_integer := by
  refine cal_of F gx b scis_integer rfl lenis_integer fun cdv A outer s H E hr => ⟨_, (dss_one (ds_ret (de_and (de_isi (T := "int") rfl rfl M.isinstance rfl M.int (by decide +kernel) (de_var 0)) (de_one (de_not (de_isi (T := "bool") rfl rfl M.isinstance rfl M.bool (by decide +kernel) (de_var 0))))))), ?_⟩
  rintro ds R ⟨i, rfl, q⟩
  refine ⟨_, true, rfl, rfl, _, rfl, _, false, rfl, rfl, _, rfl, _, _, rfl, q⟩
abbrev Fis_name : Pr := fun ds R => ∃ x : Str, ds = [.d (.str x)] ∧ NameOk x ∧ R (.d (.bool true))
theorem lenis_name : ∀ ds R, Fis_name ds R → ds.length = 1 := by
  rintro ds R ⟨i, rfl, _⟩; rfl
/-! is_name: slots 0 thing, 1 sign -/
abbrev nmis_name : List Str := ["thing", "sign"]
theorem scis_name : FnScope nmis_name ["thing"] (defScope (topS 9)) := ⟨rfl, rfl, rfl, by decide +kernel, rfl, by decide +kernel, by decide +kernel⟩
theorem okis_name {f : Addr} {fd : FuncData} {k : Nat} (F : Fun K "is_name" "is_name" (topS 9) f fd) (gx : mg "is_name" = some (.ref f)) (b : Binds K fd ["thing"] []) (M : Blt mg)  :
    Cal P w K mg base (k + 1) "is_name" 1 Fis_name := by
  refine cal_of F gx b scis_name rfl lenis_name fun cdv A outer s H E hr => ⟨_, (dss_cons (ds_if (dt_w (dw_or (dt_not (dt_val (de_isi (T := "str") rfl rfl M.isinstance rfl M.str (by decide +kernel) (de_var 0)))) (dw_or1 (dt_not (dt_chain od_le od_le de_int (de_len rfl rfl M.len (da_cons (de_var 0) da_nil)) de_int))))) (dss_one (ds_ret de_bl)) dss_nil) (dss_one (ds_ret (de_cmp (od_eq hr.hu) (de_lc rfl scis_name.nd (di_str (de_var 0)) (blkOk_by (own := [("sign", 1)]) (N := nmis_name) (sc := defScope (topS 9)) (by decide +kernel)) (fun _ _ _ _ _ => (dg_name (i := 1) scis_name.nd rfl (.inl rfl))) (fun _ _ _ _ _ => (dts_one (dt_cmp od_notinS (de_var 1) (de_globS rfl M.LETTERS)))) (fun _ _ _ _ _ => (de_var 1))) (de_lst da_nil))))), ?_⟩
  rintro ds R ⟨x, rfl, hx, q⟩
  have hlo := hx.lo
  have hhi := hx.hi
  refine ⟨_, true, rfl, rfl, _, rfl, big (by omega), _, rfl, ift (by omega) ⟨_, rfl, ifnt (by omega) ?_⟩⟩
  refine ⟨_, rfl, Nat.le_trans (Nat.le_of_eq rfl) (Nat.le_trans hhi (by decide)), free_ok, ?_⟩
  refine lc_N (enc := fun c => .str ⟨#[c]⟩) (encB := fun c => .str ⟨#[c]⟩) (fun _ => false) id lt_ok rfl (fun c hc K h => ?_) (fun c hc e => by cases e) ?_
  · have := hx.all c hc
    refine ⟨_, rfl, ?_⟩
    rw [this]
    exact h
  · rw [List.filter_eq_nil_iff.mpr (by simp)]
    exact ⟨_, rfl, le_ok, by decide, _, _, rfl, q⟩
abbrev Fis_service : Pr := fun ds R => ∃ (f : Flt) (x : Str), ds = [.d (eFl f), .d (.str x)] ∧ FlOk f ∧ x ∈ f.names ∧ R (.d (.bool true))
theorem lenis_service : ∀ ds R, Fis_service ds R → ds.length = 2 := by
  rintro ds R ⟨f, x, rfl, _⟩; rfl
/-! is_service: slots 0 fleet, 1 thing -/
abbrev nmis_service : List Str := ["fleet", "thing"]
theorem scis_service : FnScope nmis_service ["fleet", "thing"] (defScope (topS 10)) := ⟨rfl, rfl, rfl, by decide +kernel, rfl, by decide +kernel, by decide +kernel⟩
theorem okis_service {f : Addr} {fd : FuncData} {k : Nat} (F : Fun K "is_service" "is_service" (topS 10) f fd) (gx : mg "is_service" = some (.ref f)) (b : Binds K fd ["fleet", "thing"] []) (M : Blt mg) (Cis_name : Cal P w K mg base k "is_name" 1 Fis_name) :
    Cal P w K mg base (k + 1) "is_service" 2 Fis_service := by
  refine cal_of F gx b scis_service rfl lenis_service fun cdv A outer s H E hr => ⟨_, (dss_one (ds_ret (de_and (de_fn Cis_name hr (Nat.le_refl _) rfl (da_cons (de_var 1) da_nil)) (de_one (de_cmp (od_in hr.hu) (de_var 1) (de_ix (de_var 0) de_int)))))), ?_⟩
  rintro ds R ⟨fl, x, rfl, hf, hx, q⟩
  refine ⟨_, rfl, x, rfl, hf.nm x hx, true, rfl, _, rfl, Nat.zero_le 60, _, _, rfl, ?_⟩
  have := any_e okd_str fl.names x
  refine rb (F := fun b => R (.d (.bool b))) this ?_
  rw [decide_eq_true hx]
  exact q
/-- a lease of the fleet -/
def IsLs (f : Flt) (l : Lease) : Prop := l.1 ∈ f.names ∧ (l.2 = 0 ∨ ∃ b, l.2 = b + 1 ∧ f.rs[b]? = some l.1)
abbrev Fis_lease : Pr := fun ds R => ∃ (f : Flt) (x : Lease), ds = [.d (eFl f), .d (eLs x)] ∧ FlOk f ∧ IsLs f x ∧ R (.d (.bool true))
theorem lenis_lease : ∀ ds R, Fis_lease ds R → ds.length = 2 := by
  rintro ds R ⟨f, x, rfl, _⟩; rfl
/-! is_lease: slots 0 fleet, 1 thing, 2 service, 3 begin -/
abbrev nmis_lease : List Str := ["fleet", "thing", "service", "begin"]
theorem scis_lease : FnScope nmis_lease ["fleet", "thing"] (defScope (topS 11)) := ⟨rfl, rfl, rfl, by decide +kernel, rfl, by decide +kernel, by decide +kernel⟩
theorem okis_lease {f : Addr} {fd : FuncData} {k : Nat} (F : Fun K "is_lease" "is_lease" (topS 11) f fd) (gx : mg "is_lease" = some (.ref f)) (b : Binds K fd ["fleet", "thing"] []) (M : Blt mg) (Cis_integer : Cal P w K mg base k "is_integer" 1 Fis_integer) (Cis_service : Cal P w K mg base k "is_service" 2 Fis_service) :
    Cal P w K mg base (k + 1) "is_lease" 2 Fis_lease := by
  refine cal_of F gx b scis_lease rfl lenis_lease fun cdv A outer s H E hr => ⟨_, (dss_cons (ds_if (dt_w (dw_or (dt_not (dt_val (de_isi (T := "tuple") rfl rfl M.isinstance rfl M.tuple (by decide +kernel) (de_var 1)))) (dw_or (dt_cmp (od_ne hr.hu) (de_len rfl rfl M.len (da_cons (de_var 1) da_nil)) de_int) (dw_or (dt_not (dt_val (de_fn Cis_service hr (Nat.le_refl _) rfl (da_cons (de_var 0) (da_cons (de_ix (de_var 1) de_int) da_nil))))) (dw_or1 (dt_not (dt_val (de_fn Cis_integer hr (Nat.le_refl _) rfl (da_cons (de_ix (de_var 1) de_int) da_nil))))))))) (dss_one (ds_ret de_bl)) dss_nil) (dss_cons (ds_asg (de_var 1) (dg_pair (i := 2) (j := 3) rfl scis_lease.nd rfl rfl (.inl rfl) (.inl rfl))) (dss_one (ds_ret (de_or (de_cmp (od_eq hr.hu) (de_var 3) de_int) (de_one (de_and (de_chain od_lt od_le de_int (de_var 3) (de_len rfl rfl M.len (da_cons (de_ix (de_var 0) de_int) da_nil))) (de_one (de_cmp (od_eq hr.hu) (de_ix (de_ix (de_var 0) de_int) (de_op od_sub (de_var 3) de_int)) (de_var 2)))))))))), ?_⟩
  rintro ds R ⟨fl, ⟨x, b⟩, rfl, hf, hx, q⟩
  refine ⟨_, true, rfl, rfl, _, rfl, Nat.zero_le 60, false, rfl, _, rfl, _, rfl, fl, x, rfl, hf, hx.1, _, rfl, _, rfl, _, rfl, (b : Int), rfl, _, rfl, _, rfl, _, _, rfl, lt_ok, lt_ok, Nat.zero_le 60, _, rfl, ife (okd_nat.eq b 0) (fun h => ⟨_, _, rfl, q⟩) fun h => ?_⟩
  rcases hx.2 with hb | ⟨c, hc, hg⟩
  · exact absurd hb h
  · have hc : b = c + 1 := hc
    have hl := (List.getElem?_eq_some_iff.mp hg).1
    have gA := atI_map (f := PyData.str) hg
    have e : (b : Int) - 1 = (c : Int) := by omega
    refine ⟨_, rfl, ift (by omega) ⟨_, rfl, _, rfl, ift (by rw [List.length_map]; omega) ⟨_, rfl, True.intro, _, rl (F := fun i => atI _ i = some _) e gA, Nat.zero_le 60, _, _, rfl, ?_⟩⟩⟩
    refine rb (F := fun b => R (.d (.bool b))) (okd_str.eq x x) ?_
    rw [decide_eq_true rfl]
    exact q
abbrev Fsize : Pr := fun ds R => ∃ f : Flt, ds = [.d (eFl f)] ∧ R (.d (eN f.rs.length))
theorem lensize : ∀ ds R, Fsize ds R → ds.length = 1 := by
  rintro ds R ⟨f, rfl, _⟩; rfl
/-! size: slots 0 fleet -/
abbrev nmsize : List Str := ["fleet"]
theorem scsize : FnScope nmsize ["fleet"] (defScope (topS 13)) := ⟨rfl, rfl, rfl, by decide +kernel, rfl, by decide +kernel, by decide +kernel⟩
theorem oksize {f : Addr} {fd : FuncData} {k : Nat} (F : Fun K "size" "size" (topS 13) f fd) (gx : mg "size" = some (.ref f)) (b : Binds K fd ["fleet"] []) (M : Blt mg)  :
    Cal P w K mg base (k + 1) "size" 1 Fsize := by
  refine cal_of F gx b scsize rfl lensize fun cdv A outer s H E hr => ⟨_, (dss_one (ds_ret (de_len rfl rfl M.len (da_cons (de_ix (de_var 0) de_int) da_nil)))), ?_⟩
  rintro ds R ⟨fl, rfl, q⟩
  refine ⟨_, rfl, _, _, rfl, ?_⟩
  rw [List.length_map]
  exact q
/-- where s restarts -/
def rsOf (rs : List Str) (s : Str) : List Nat := ((rs.zipIdx.filter fun p => decide (p.1 = s))).map (·.2)
abbrev Frestarts_of : Pr := fun ds R => ∃ (f : Flt) (s : Str), ds = [.d (eFl f), .d (.str s)] ∧ R (.d (eT eN (rsOf f.rs s)))
theorem lenrestarts_of : ∀ ds R, Frestarts_of ds R → ds.length = 2 := by
  rintro ds R ⟨f, s, rfl, _⟩; rfl
/-! restarts_of: slots 0 fleet, 1 service, 2 number, 3 name -/
abbrev nmrestarts_of : List Str := ["fleet", "service", "number", "name"]
theorem screstarts_of : FnScope nmrestarts_of ["fleet", "service"] (defScope (topS 14)) := ⟨rfl, rfl, rfl, by decide +kernel, rfl, by decide +kernel, by decide +kernel⟩
theorem okrestarts_of {f : Addr} {fd : FuncData} {k : Nat} (F : Fun K "restarts_of" "restarts_of" (topS 14) f fd) (gx : mg "restarts_of" = some (.ref f)) (b : Binds K fd ["fleet", "service"] []) (M : Blt mg)  :
    Cal P w K mg base (k + 1) "restarts_of" 2 Frestarts_of := by
  refine cal_of F gx b screstarts_of rfl lenrestarts_of fun cdv A outer s H E hr => ⟨_, (dss_one (ds_ret (de_tupc rfl rfl M.tuple (da_cons (de_lc rfl screstarts_of.nd (di_enum rfl rfl M.enumerate (de_ix (de_var 0) de_int)) (blkOk_by (own := [("number", 2), ("name", 3)]) (N := nmrestarts_of) (sc := defScope (topS 14)) (by decide +kernel)) (fun _ _ _ _ _ => (dg_pair (i := 2) (j := 3) rfl screstarts_of.nd rfl rfl (.inl rfl) (.inl rfl))) (fun _ _ _ _ _ => (dts_one (dt_cmp (od_eq hr.hu) (de_var 3) (de_var 1)))) (fun _ _ _ _ _ => (de_var 2))) da_nil)))), ?_⟩
  rintro ds R ⟨fl, s, rfl, q⟩
  refine ⟨_, rfl, _, rfl, free_ok, ?_⟩
  have e : enumD (fl.rs.map PyData.str) = (fl.rs.zipIdx.map fun p => (p.2, p.1)).map fun x => .tuple [eN x.1, .str x.2] := by
    unfold enumD
    rw [List.zipIdx_map, List.map_map, List.map_map]
    rfl
  rw [e]
  refine lc_P (f := eN) (f2 := .str) (encB := eN) (fun p => decide (p.2 = s)) (fun p => p.1) lt_ok lt_ok (by decide) rfl (fun p hp K h => ?_) (fun p hp e K h => h) ?_
  · exact ⟨Nat.zero_le 60, _, rfl, rb (F := fun b => K b _) (okd_str.eq p.2 s) h⟩
  · refine ⟨_, _, rfl, rl (F := fun l => R (.d (.tuple l))) ?_ q⟩
    rw [rsOf, List.filter_map, List.map_map, List.map_map, List.map_map]
    rfl
abbrev Flease_in : Pr := fun ds R => ∃ (f : Flt) (s : Str) (k : Nat), ds = [.d (eFl f), .d (.str s), .d (eN k)] ∧ f.rs.length ≤ 100 ∧ R (.d (eLs (s, (((rsOf f.rs s).filter fun i => decide (i < k)).getLast?.map (· + 1)).getD 0)))
theorem lenlease_in : ∀ ds R, Flease_in ds R → ds.length = 3 := by
  rintro ds R ⟨f, s, k, rfl, _⟩; rfl
/-! lease_in: slots 0 fleet, 1 service, 2 stretch, 3 begins, 4 number -/
abbrev nmlease_in : List Str := ["fleet", "service", "stretch", "begins", "number"]
theorem sclease_in : FnScope nmlease_in ["fleet", "service", "stretch"] (defScope (topS 16)) := ⟨rfl, rfl, rfl, by decide +kernel, rfl, by decide +kernel, by decide +kernel⟩
theorem oklease_in {f : Addr} {fd : FuncData} {k : Nat} (F : Fun K "lease_in" "lease_in" (topS 16) f fd) (gx : mg "lease_in" = some (.ref f)) (b : Binds K fd ["fleet", "service", "stretch"] []) (M : Blt mg) (Crestarts_of : Cal P w K mg base k "restarts_of" 2 Frestarts_of) :
    Cal P w K mg base (k + 1) "lease_in" 3 Flease_in := by
  refine cal_of F gx b sclease_in rfl lenlease_in fun cdv A outer s H E hr => ⟨_, (dss_cons (ds_setLc (i := 3) rfl sclease_in.nd rfl rfl (sw_true rfl rfl rfl (by decide +kernel)) (di_tup (de_fn Crestarts_of hr (Nat.le_refl _) rfl (da_cons (de_var 0) (da_cons (de_var 1) da_nil)))) (blkOk_by (own := [("number", 4)]) (N := nmlease_in) (sc := defScope (topS 16)) (by decide +kernel)) (fun _ _ _ _ _ => (dg_name (i := 4) sclease_in.nd rfl (.inl rfl))) (fun _ _ _ _ _ => (dts_one (dt_cmp od_lt (de_var 4) (de_var 2)))) (fun _ _ _ _ _ => (de_op od_add (de_var 4) de_int))) (dss_one (ds_ret (de_tup (da_cons (de_var 1) (da_cons (de_if (dt_cmp (od_ne hr.hu) (de_var 3) (de_lst da_nil)) (de_ix (de_var 3) (de_neg de_int)) de_int) da_nil)))))), ?_⟩
  rintro ds R ⟨fl, s, k, rfl, hl, q⟩
  refine ⟨_, rfl, fl, s, rfl, _, rfl, free_ok, ?_⟩
  refine lc_N (enc := eN) (encB := eN) (fun i => decide (i < k)) (fun i => i + 1) lt_ok rfl (fun i hi K h => ?_) (fun i hi e K h => h) ?_
  · exact ⟨_, rfl, rb (F := fun b => K b _) (decide_eq_decide.mpr (by omega)) h⟩
  · refine ⟨_, rfl, lt_ok, _, rfl, le_ok, Nat.le_trans (Nat.min_le_right _ _) (by decide), ?_⟩
    generalize (rsOf fl.rs s).filter (fun i => decide (i < k)) = l at q
    refine ⟨_, rfl, ife ((okd_L okd_nat).ne (l.map fun i => i + 1) []) (fun h => ?_) fun h => ?_⟩
    · have h0 : l ≠ [] := fun e => h (by rw [e]; rfl)
      obtain ⟨z, hz⟩ : ∃ z, l.getLast? = some z := by
        cases e : l.getLast? with
        | none => exact absurd (List.getLast?_eq_none_iff.mp e) h0
        | some z => exact ⟨z, rfl⟩
      rw [hz] at q
      exact ⟨_, rfl, _, atI_end (f := eN) (a := z + 1) (by rw [List.getLast?_map, hz]; rfl), _, rfl, le_ok, _, _, rfl, q⟩
    · have h0 : l = [] := by simpa using h
      subst h0
      exact ⟨_, rfl, le_ok, _, _, rfl, q⟩
def endOf (rs : List Str) (l : Lease) : Nat := (((rsOf rs l.1).filter fun i => decide (l.2 ≤ i)).head?).getD rs.length
abbrev Fend_of : Pr := fun ds R => ∃ (f : Flt) (x : Lease), ds = [.d (eFl f), .d (eLs x)] ∧ FlOk f ∧ IsLs f x ∧ R (.d (eN (endOf f.rs x)))
theorem lenend_of : ∀ ds R, Fend_of ds R → ds.length = 2 := by
  rintro ds R ⟨f, x, rfl, _⟩; rfl
/-! end_of: slots 0 fleet, 1 lease, 2 ends, 3 number -/
abbrev nmend_of : List Str := ["fleet", "lease", "ends", "number"]
theorem scend_of : FnScope nmend_of ["fleet", "lease"] (defScope (topS 17)) := ⟨rfl, rfl, rfl, by decide +kernel, rfl, by decide +kernel, by decide +kernel⟩
theorem okend_of {f : Addr} {fd : FuncData} {k : Nat} (F : Fun K "end_of" "end_of" (topS 17) f fd) (gx : mg "end_of" = some (.ref f)) (b : Binds K fd ["fleet", "lease"] []) (M : Blt mg) (Cis_lease : Cal P w K mg base k "is_lease" 2 Fis_lease) (Crestarts_of : Cal P w K mg base k "restarts_of" 2 Frestarts_of) (Csize : Cal P w K mg base k "size" 1 Fsize) :
    Cal P w K mg base (k + 1) "end_of" 2 Fend_of := by
  refine cal_of F gx b scend_of rfl lenend_of fun cdv A outer s H E hr => ⟨_, (dss_cons (ds_if (dt_not (dt_val (de_fn Cis_lease hr (Nat.le_refl _) rfl (da_cons (de_var 0) (da_cons (de_var 1) da_nil))))) (dss_one ds_never) dss_nil) (dss_cons (ds_setLc (i := 2) rfl scend_of.nd rfl rfl (sw_true rfl rfl rfl (by decide +kernel)) (di_tup (de_fn Crestarts_of hr (Nat.le_refl _) rfl (da_cons (de_var 0) (da_cons (de_ix (de_var 1) de_int) da_nil)))) (blkOk_by (own := [("number", 3)]) (N := nmend_of) (sc := defScope (topS 17)) (by decide +kernel)) (fun _ _ _ _ _ => (dg_name (i := 3) scend_of.nd rfl (.inl rfl))) (fun _ _ _ _ _ => (dts_one (dt_cmp od_ge (de_var 3) (de_ix (de_var 1) de_int)))) (fun _ _ _ _ _ => (de_var 3))) (dss_one (ds_ret (de_if (dt_cmp (od_ne hr.hu) (de_var 2) (de_lst da_nil)) (de_ix (de_var 2) de_int) (de_fn Csize hr (Nat.le_refl _) rfl (da_cons (de_var 0) da_nil))))))), ?_⟩
  rintro ds R ⟨fl, ⟨x, b⟩, rfl, hf, hx, q⟩
  refine ⟨_, rfl, fl, (x, b), rfl, hf, hx, _, rfl, _, rfl, _, rfl, fl, x, rfl, _, rfl, free_ok, ?_⟩
  refine lc_N (enc := eN) (encB := eN) (fun i => decide (b ≤ i)) id lt_ok rfl (fun i hi K h => ?_) (fun i hi e K h => h) ?_
  · exact ⟨_, rfl, _, rfl, rb (F := fun b => K b _) (decide_eq_decide.mpr (by omega)) h⟩
  · rw [List.map_id]
    have e : endOf fl.rs (x, b) = (((rsOf fl.rs x).filter fun i => decide (b ≤ i)).head?).getD fl.rs.length := rfl
    rw [e] at q
    generalize (rsOf fl.rs x).filter (fun i => decide (b ≤ i)) = l at q
    refine ⟨_, rfl, lt_ok, _, rfl, le_ok, Nat.le_trans (Nat.min_le_right _ _) (by decide), _, rfl, ife ((okd_L okd_nat).ne l []) (fun h => ?_) fun h => ?_⟩
    · cases l with
      | nil => exact absurd rfl h
      | cons a r => exact ⟨eN a, atI_map (f := eN) (i := 0) rfl, _, _, rfl, q⟩
    · have h0 : l = [] := by simpa using h
      subst h0
      exact ⟨_, rfl, fl, rfl, _, _, rfl, q⟩
noncomputable def srtE {α : Type} (enc : α → PyData) (l : List α) : List α := l.mergeSort (PySem.W.dataLe false enc)
theorem srtE_perm {α : Type} (enc : α → PyData) (l : List α) : (srtE enc l).Perm l := List.mergeSort_perm _ _
theorem srtE_map {α : Type} (enc : α → PyData) (l : List α) : srtD (l.map enc) = (srtE enc l).map enc := by
  unfold srtD srtE
  rw [List.map_mergeSort]
  intro a _ b _
  rfl
def rawLs (names rs : List Str) : List Lease := names.map (fun s => (s, 0)) ++ rs.zipIdx.map fun p => (p.1, p.2 + 1)
noncomputable def lsOf (names rs : List Str) : List Lease := srtE eLs (rawLs names rs)
theorem alike_str (a b : Str) : PySem.W.alike (.str a) (.str b) = true := by simp [PySem.W.alike]
theorem alike_int (a b : Int) : PySem.W.alike (.int a) (.int b) = true := by simp [PySem.W.alike]
theorem alike_T {α : Type} {f : α → PyData} (h : ∀ a b, PySem.W.alike (f a) (f b) = true) : ∀ a b : List α, PySem.W.alike (eT f a) (eT f b) = true
  | [], [] => by simp [PySem.W.alike, PySem.W.alikeAll]
  | [], _ :: _ => by simp [PySem.W.alike, PySem.W.alikeAll]
  | _ :: _, [] => by simp [PySem.W.alike, PySem.W.alikeAll]
  | a :: l, b :: m => by
    have := alike_T h l m
    simp [PySem.W.alike, PySem.W.alikeAll, h a b] at this ⊢
    exact this
theorem alike_2 {α β : Type} {f : α → PyData} {g : β → PyData} (h : ∀ a b, PySem.W.alike (f a) (f b) = true) (h2 : ∀ a b, PySem.W.alike (g a) (g b) = true) (a b : α × β) : PySem.W.alike (e2 f g a) (e2 f g b) = true := by
  simp [PySem.W.alike, PySem.W.alikeAll, h a.1 b.1, h2 a.2 b.2]
theorem srt_tups {α : Type} [DecidableEq α] {enc : α → PyData} {k : Nat} (o : Okd enc k) (hk : k ≤ 50) (ha : ∀ a b, PySem.W.alike (enc a) (enc b) = true) (ht : ∀ a, ∃ xs, enc a = .tuple xs) (l : List α) : SrtOk (l.map enc) :=
  ⟨PySem.W.AllAlike.of ha, .inr fun d hd => by obtain ⟨a, _, rfl⟩ := List.mem_map.mp hd; exact ht a, fun d hd => by obtain ⟨a, _, rfl⟩ := List.mem_map.mp hd; exact Nat.le_trans (o.dep a) hk⟩
theorem srt_others {α : Type} [DecidableEq α] {enc : α → PyData} {k : Nat} (o : Okd enc k) (hk : k ≤ 50) (ha : ∀ a b, PySem.W.alike (enc a) (enc b) = true) (ht : ∀ a, enc a ≠ .none ∧ ∀ xs, enc a ≠ .tuple xs) (l : List α) : SrtOk (l.map enc) :=
  ⟨PySem.W.AllAlike.of ha, .inl (PySem.W.Sortable.others ht), fun d hd => by obtain ⟨a, _, rfl⟩ := List.mem_map.mp hd; exact Nat.le_trans (o.dep a) hk⟩
theorem srt_ls (l : List Lease) : SrtOk (l.map eLs) := srt_tups okLs (by decide) (alike_2 alike_str fun a b => alike_int _ _) (fun a => ⟨_, rfl⟩) l
abbrev Fleases_of : Pr := fun ds R => ∃ f : Flt, ds = [.d (eFl f)] ∧ FlOk f ∧ R (.d (eT eLs (lsOf f.names f.rs)))
theorem lenleases_of : ∀ ds R, Fleases_of ds R → ds.length = 1 := by
  rintro ds R ⟨f, rfl, _⟩; rfl
/-! leases_of: slots 0 fleet, 1 first, 2 service, 3 number -/
abbrev nmleases_of : List Str := ["fleet", "first", "service", "number"]
theorem scleases_of : FnScope nmleases_of ["fleet"] (defScope (topS 15)) := ⟨rfl, rfl, rfl, by decide +kernel, rfl, by decide +kernel, by decide +kernel⟩
theorem okleases_of {f : Addr} {fd : FuncData} {k : Nat} (F : Fun K "leases_of" "leases_of" (topS 15) f fd) (gx : mg "leases_of" = some (.ref f)) (b : Binds K fd ["fleet"] []) (M : Blt mg)  :
    Cal P w K mg base (k + 1) "leases_of" 1 Fleases_of := by
  refine cal_of F gx b scleases_of rfl lenleases_of fun cdv A outer s H E hr => ⟨_, (dss_cons (ds_setLc (i := 1) rfl scleases_of.nd rfl rfl (sw_true rfl rfl rfl (by decide +kernel)) (di_tup (de_ix (de_var 0) de_int)) (blkOk_by (own := [("service", 2)]) (N := nmleases_of) (sc := defScope (topS 15)) (by decide +kernel)) (fun _ _ _ _ _ => (dg_name (i := 2) scleases_of.nd rfl (.inl rfl))) (fun _ _ _ _ _ => dts_nil) (fun _ _ _ _ _ => (de_tup (da_cons (de_var 2) (da_cons de_int da_nil))))) (dss_one (ds_ret (de_tupc rfl rfl M.tuple (da_cons (de_sorted hr rfl rfl M.sorted (da_cons (de_op od_add (de_var 1) (de_lc rfl scleases_of.nd (di_enum rfl rfl M.enumerate (de_ix (de_var 0) de_int)) (blkOk_by (own := [("number", 3), ("service", 2)]) (N := nmleases_of) (sc := defScope (topS 15)) (by decide +kernel)) (fun _ _ _ _ _ => (dg_pair (i := 3) (j := 2) rfl scleases_of.nd rfl rfl (.inl rfl) (.inl rfl))) (fun _ _ _ _ _ => dts_nil) (fun _ _ _ _ _ => (de_tup (da_cons (de_var 2) (da_cons (de_op od_add (de_var 3) de_int) da_nil)))))) da_nil)) da_nil))))), ?_⟩
  rintro ds R ⟨fl, rfl, hf, q⟩
  refine ⟨_, rfl, _, rfl, free_ok, ?_⟩
  refine lc_Nm (enc := .str) (encB := eLs) (fun s => (s, 0)) lt_ok rfl (fun s hs K h => ⟨_, rfl, le_ok, h⟩) ?_
  refine ⟨_, rfl, lt_ok, _, rfl, _, rfl, free_ok, ?_⟩
  have e : enumD (fl.rs.map PyData.str) = (fl.rs.zipIdx.map fun p => (p.2, p.1)).map fun x => .tuple [eN x.1, .str x.2] := by
    unfold enumD
    rw [List.zipIdx_map, List.map_map, List.map_map]
    rfl
  rw [e]
  refine lc_Pm (f := eN) (f2 := .str) (encB := eLs) (fun p => (p.2, p.1 + 1)) lt_ok lt_ok (by decide) rfl (fun p hp K h => ⟨_, rfl, le_ok, h⟩) ?_
  have hl1 := hf.nlen
  have hl2 := hf.rlen
  refine ⟨?_, ?_⟩
  · simp only [List.length_map, List.length_zipIdx]
    exact Nat.le_trans (m := 1000) (by omega) (by decide)
  · rw [← List.map_append]
    refine ⟨srt_ls _, _, _, rfl, ?_⟩
    rw [srtE_map]
    refine rl (F := fun l : List Lease => R (.d (.tuple (l.map eLs)))) ?_ q
    unfold lsOf rawLs
    rw [List.map_map]
    rfl
end
end SH
end P2
section P3
set_option Elab.async false
set_option linter.all false
set_option maxRecDepth 100000
set_option maxHeartbeats 4000000
/-! P3: vertices, apart, edits, differences -/
namespace SH
open PySem PySem.Spec PyProof.Rows L2 DL SM
section
variable {P : Program} {w : World} {K : PySem.W.Frag} {mg : Str → Option Value} {base : Heap}
abbrev eP : List Nat → PyData := eT eN
theorem okP : Okd eP 1 := okd_T okd_nat
abbrev Fvertices_of : Pr := fun ds R => ∃ (f : Flt) (p : List Nat), ds = [.d (eFl f), .d (eP p)] ∧ FlOk f ∧ R (.d (eT eW ((List.range (f.rs.length + 1)).map (vx f.rs p))))
theorem lenvertices_of : ∀ ds R, Fvertices_of ds R → ds.length = 2 := by
  rintro ds R ⟨f, p, rfl, _⟩; rfl
/-! vertices_of: slots 0 fleet, 1 plan, 2 found, 3 number, 4 service -/
abbrev nmvertices_of : List Str := ["fleet", "plan", "found", "number", "service"]
theorem scvertices_of : FnScope nmvertices_of ["fleet", "plan"] (defScope (topS 24)) := ⟨rfl, rfl, rfl, by decide +kernel, rfl, by decide +kernel, by decide +kernel⟩
theorem okvertices_of {f : Addr} {fd : FuncData} {k : Nat} (F : Fun K "vertices_of" "vertices_of" (topS 24) f fd) (gx : mg "vertices_of" = some (.ref f)) (b : Binds K fd ["fleet", "plan"] []) (M : Blt mg) (Cjoined : Cal P w K mg base k "joined" 2 Fjoined) :
    Cal P w K mg base (k + 1) "vertices_of" 2 Fvertices_of := by
  refine cal_of F gx b scvertices_of rfl lenvertices_of fun cdv A outer s H E hr => ⟨_, (dss_cons (ds_set (i := 2) scvertices_of.nd rfl (.inl rfl) (de_lst (da_cons (de_tup da_nil) da_nil))) (dss_cons (ds_for PassesOwn.never rfl (di_enum rfl rfl M.enumerate (de_ix (de_var 0) de_int)) (dg_pair (i := 3) (j := 4) rfl scvertices_of.nd rfl rfl (.inl rfl) (.inl rfl)) (dss_one (ds_expr (de_append rfl (de_var 2) (da_cons (de_if (dt_cmp (od_in hr.hu) (de_var 3) (de_var 1)) (de_fn Cjoined hr (Nat.le_refl _) rfl (da_cons (de_ix (de_var 2) (de_neg de_int)) (da_cons (de_tup (da_cons (de_var 4) da_nil)) da_nil))) (de_ix (de_var 2) (de_neg de_int))) da_nil))))) (dss_one (ds_ret (de_tupc rfl rfl M.tuple (da_cons (de_var 2) da_nil)))))), ?_⟩
  rintro ds R ⟨fl, p, rfl, hf, q⟩
  have hr := hf.rlen
  refine ⟨_, rfl, le_ok, _, rfl, le_ok, _, rfl, lt_ok, _, rfl, _, rfl, ?_⟩
  have e : enumD (fl.rs.map PyData.str) = (fl.rs.zipIdx.map fun p => (p.2, p.1)).map fun x => .tuple [eN x.1, .str x.2] := by
    unfold enumD
    rw [List.zipIdx_map, List.map_map, List.map_map]
    rfl
  rw [e]
  refine for_inv (fun i ρ => ∃ c d l, l = ((List.range (i + 1)).map (vx fl.rs p)).map eW ∧ ρ = [some (.dat (.d (eFl fl))), some (.dat (.d (eP p))), some (.lst l), c, d]) ⟨_, _, _, rfl, rfl⟩ ?_ ?_
  · rintro i ⟨j, x⟩ ρ hi ⟨c, d, _, rfl, rfl⟩ nx hn
    rw [List.getElem?_map, List.getElem?_zipIdx] at hi
    obtain ⟨⟨x', j'⟩, h1, h2⟩ := Option.map_eq_some_iff.mp hi
    cases h2
    obtain ⟨y, h3, h4⟩ := Option.map_eq_some_iff.mp h1
    rw [Nat.zero_add] at h4
    cases h4
    have hil : i < fl.rs.length := (List.getElem?_eq_some_iff.mp h3).1
    have hlast : ((List.range (i + 1)).map (vx fl.rs p)).getLast? = some (vx fl.rs p i) := by
      rw [List.range_succ, List.map_append]; simp
    have hlen : (((List.range (i + 1)).map (vx fl.rs p)).map eW).length < sizeLine := by
      simp only [List.length_map, List.length_range]
      exact Nat.lt_of_le_of_lt (m := 1000) (by omega) (by decide)
    have hnext : ((List.range (i + 1 + 1)).map (vx fl.rs p)).map eW = ((List.range (i + 1)).map (vx fl.rs p)).map eW ++ [eW (vx fl.rs p (i + 1))] := by
      rw [List.range_succ (n := i + 1), List.map_append, List.map_append]; rfl
    refine ⟨_, _, rfl, lt_ok, lt_ok, _, _, rfl, Nat.zero_le 60, _, rfl, ife (any_e okd_nat p i) (fun hm => ?_) fun hm => ?_⟩
    · refine ⟨_, rfl, _, atI_end hlast, _, rfl, le_ok, _, rfl, _, [x'], rfl, by have := vx_len fl.rs p i; simp only [List.length_singleton]; omega, _, rfl, _, rfl, hlen, hn _ ⟨_, _, _, ?_, rfl⟩⟩
      rw [hnext, red_snoc x' (vx_isRed fl.rs p i), vx_step h3, if_pos hm]
    · refine ⟨_, rfl, _, atI_end hlast, _, rfl, _, rfl, hlen, hn _ ⟨_, _, _, ?_, rfl⟩⟩
      rw [hnext, vx_step h3, if_neg hm]
  · rintro ρ ⟨c, d, _, rfl, rfl⟩
    refine ⟨_, _, rfl, ?_⟩
    simp only [List.length_map, List.length_zipIdx]
    exact q
abbrev Fedges_with : Pr := fun ds R => ∃ (es : List (List Str × Str)) (s : Str), ds = [.d (eWay es), .d (.str s)] ∧ R (.d (eWay (es.filter fun e => decide (e.2 = s))))
theorem lenedges_with : ∀ ds R, Fedges_with ds R → ds.length = 2 := by
  rintro ds R ⟨f, p, rfl, _⟩; rfl
/-! edges_with: slots 0 edges, 1 service, 2 edge -/
abbrev nmedges_with : List Str := ["edges", "service", "edge"]
theorem scedges_with : FnScope nmedges_with ["edges", "service"] (defScope (topS 26)) := ⟨rfl, rfl, rfl, by decide +kernel, rfl, by decide +kernel, by decide +kernel⟩
theorem okedges_with {f : Addr} {fd : FuncData} {k : Nat} (F : Fun K "edges_with" "edges_with" (topS 26) f fd) (gx : mg "edges_with" = some (.ref f)) (b : Binds K fd ["edges", "service"] []) (M : Blt mg)  :
    Cal P w K mg base (k + 1) "edges_with" 2 Fedges_with := by
  refine cal_of F gx b scedges_with rfl lenedges_with fun cdv A outer s H E hr => ⟨_, (dss_one (ds_ret (de_tupc rfl rfl M.tuple (da_cons (de_lc rfl scedges_with.nd (di_tup (de_var 0)) (blkOk_by (own := [("edge", 2)]) (N := nmedges_with) (sc := defScope (topS 26)) (by decide +kernel)) (fun _ _ _ _ _ => (dg_name (i := 2) scedges_with.nd rfl (.inl rfl))) (fun _ _ _ _ _ => (dts_one (dt_cmp (od_eq hr.hu) (de_ix (de_var 2) de_int) (de_var 1)))) (fun _ _ _ _ _ => (de_var 2))) da_nil)))), ?_⟩
  rintro ds R ⟨es, s, rfl, q⟩
  refine ⟨_, rfl, free_ok, ?_⟩
  refine lc_N (enc := eEdge) (encB := eEdge) (fun e => decide (e.2 = s)) id lt_ok rfl (fun e he K h => ?_) (fun e he _ K h => h) ?_
  · exact ⟨_, rfl, Nat.zero_le 60, _, rfl, rb (F := fun b => K b _) (okd_str.eq e.2 s) h⟩
  · rw [List.map_id]
    exact ⟨_, _, rfl, q⟩
/-! ### keys -/
theorem nk_int (i : Int) : NkD (.int i) (nkOf (.int i)) := by rw [nkOf]; exact .num i
theorem nk_str (i : Str) : NkD (.str i) (nkOf (.str i)) := by rw [nkOf]; exact .text i
theorem nk_all' {α : Type} {f : α → PyData} (h : ∀ a, NkD (f a) (nkOf (f a))) : ∀ l : List α, NkDs (l.map f) (nkAll (l.map f))
  | [] => by rw [List.map_nil, nkAll]; exact .nil
  | a :: l => by rw [List.map_cons, nkAll]; exact .cons (h a) (nk_all' h l)
theorem nk_T {α : Type} {f : α → PyData} (h : ∀ a, NkD (f a) (nkOf (f a))) (l : List α) : NkD (eT f l) (nkOf (eT f l)) := by
  rw [eT, nkOf]; exact .tup (nk_all' h l)
theorem nk_2 {α β : Type} {f : α → PyData} {g : β → PyData} (h : ∀ a, NkD (f a) (nkOf (f a))) (h2 : ∀ a, NkD (g a) (nkOf (g a))) (p : α × β) : NkD (e2 f g p) (nkOf (e2 f g p)) := by
  rw [e2, nkOf, nkAll, nkAll, nkAll]; exact .tup (.cons (h _) (.cons (h2 _) .nil))
mutual
theorem nk_depth : ∀ d : PyData, (nkOf d).depth ≤ d.depth
  | .none => by simp [nkOf, NestedKey.depth]
  | .bool _ => by simp [nkOf, NestedKey.depth]
  | .int _ => by simp [nkOf, NestedKey.depth]
  | .str _ => by simp [nkOf, NestedKey.depth]
  | .list _ => by simp [nkOf, NestedKey.depth]
  | .dict _ => by simp [nkOf, NestedKey.depth]
  | .tuple ds => by
    rw [nkOf, NestedKey.depth, PyData.depth]
    exact Nat.succ_le_succ (nk_depths ds)
theorem nk_depths : ∀ ds : List PyData, NestedKey.depthAll (nkAll ds) ≤ PyData.depthAll ds
  | [] => by simp [nkAll, NestedKey.depthAll]
  | d :: ds => by
    rw [nkAll, NestedKey.depthAll, PyData.depthAll]
    have := nk_depth d
    have := nk_depths ds
    omega
end
structure Okk {α : Type} [DecidableEq α] (enc : α → PyData) : Prop where
  key : ∀ a, KeyOk (enc a)
  inj : ∀ {a b}, nkOf (enc a) = nkOf (enc b) → a = b
theorem okk {α : Type} [DecidableEq α] {enc : α → PyData} {k : Nat} (o : Okd enc k) (hk : k ≤ 8) (ht : ∀ a, ∃ xs, enc a = .tuple xs) (hn : ∀ a, NkD (enc a) (nkOf (enc a))) : Okk enc where
  key := fun a => ⟨ht a, hn a, Nat.le_trans (nk_depth _) (Nat.le_trans (o.dep a) hk)⟩
  inj := fun {a b} h => by
    have e : enc a = enc b := by rw [← (hn a).back.1, ← (hn b).back.1, h]
    have h1 := o.eq a b
    rw [e, o.eq b b] at h1
    simpa using h1.symm
theorem okkLs : Okk eLs := okk okLs (by decide) (fun _ => ⟨_, rfl⟩) (nk_2 nk_str fun _ => nk_int _)
theorem okkP : Okk eP := okk okP (by decide) (fun _ => ⟨_, rfl⟩) (nk_T fun _ => nk_int _)
theorem kAt_put {α : Type} (l : List (NestedKey × α)) (k k' : NestedKey) (v : α) : kAt (kPut l k v) k' = if k' = k then some v else kAt l k' := by
  unfold kPut
  by_cases h : (kAt l k).isSome = true
  · rw [if_pos h]
    induction l with
    | nil => simp [kAt] at h
    | cons x l ih =>
      rw [List.map_cons, kAt_cons, kAt_cons]
      rw [kAt_cons] at h
      by_cases e : x.1 = k
      · rw [if_pos e]
        by_cases e2 : k' = k
        · rw [if_pos e2, if_pos (by rw [e2]; exact e)]
        · rw [if_neg e2, if_neg (fun z => e2 (by rw [← z]; exact e)), if_neg (fun z => e2 (by rw [← z]; exact e))]
          clear ih h
          induction l with
          | nil => rfl
          | cons y l ih2 =>
            rw [List.map_cons, kAt_cons, kAt_cons, ih2]
            by_cases e3 : y.1 = k
            · rw [if_pos e3, if_neg (fun z => e2 (by rw [← z]; exact e3)), if_neg (fun z => e2 (by rw [← z]; exact e3))]
            · rw [if_neg e3]
      · rw [if_neg e] at h
        have := ih h
        rw [if_neg e, this]
        by_cases e2 : k' = k
        · rw [if_pos e2, if_neg (fun z => e (by rw [z]; exact e2)), if_pos e2]
        · rw [if_neg e2, if_neg e2]
  · rw [if_neg h]
    have hn : kAt l k = none := by simpa using h
    clear h
    induction l with
    | nil =>
      show kAt [(k, v)] k' = _
      rw [kAt_cons]
      by_cases e : k' = k
      · rw [if_pos e.symm, if_pos e]
      · rw [if_neg (Ne.symm e), if_neg e]
    | cons x l ih =>
      rw [kAt_cons] at hn
      rw [List.cons_append, kAt_cons, kAt_cons]
      by_cases e : x.1 = k
      · rw [if_pos e] at hn; cases hn
      · rw [if_neg e] at hn
        rw [ih hn]
        by_cases e2 : x.1 = k'
        · rw [if_pos e2, if_pos e2, if_neg (fun z => e (by rw [e2]; exact z))]
        · rw [if_neg e2, if_neg e2]
/-! ### apart -/
theorem ls_ok {f : Flt} {l : Lease} (h : l ∈ lsOf f.names f.rs) (hf : FlOk f) : IsLs f l := by
  have h := (srtE_perm eLs (rawLs f.names f.rs)).mem_iff.mp h
  unfold rawLs at h
  rcases List.mem_append.mp h with h | h
  · obtain ⟨s, hs, rfl⟩ := List.mem_map.mp h
    exact ⟨hs, .inl rfl⟩
  · obtain ⟨⟨s, i⟩, hs, rfl⟩ := List.mem_map.mp h
    have hg := List.mem_zipIdx_iff_getElem?.mp hs
    exact ⟨hf.mem s (List.mem_of_getElem? hg), .inr ⟨i, rfl, hg⟩⟩
theorem IsLs.le {f : Flt} {l : Lease} (h : IsLs f l) : l.2 ≤ f.rs.length := by
  rcases h.2 with e | ⟨b, e, g⟩
  · omega
  · have := (List.getElem?_eq_some_iff.mp g).1
    omega
theorem vx_at (rs : List Str) (p : List Nat) {k : Nat} (h : k ≤ rs.length) : atI (((List.range (rs.length + 1)).map (vx rs p)).map eW) (k : Int) = some (eW (vx rs p k)) :=
  atI_map (by rw [List.getElem?_map, List.getElem?_range (by omega)]; rfl)
theorem ls_len (f : Flt) : (lsOf f.names f.rs).length = f.names.length + f.rs.length := by
  have := (srtE_perm eLs (rawLs f.names f.rs)).length_eq
  rw [show lsOf f.names f.rs = srtE eLs (rawLs f.names f.rs) from rfl, this]
  unfold rawLs
  simp
abbrev Faparts : Pr := fun ds R => ∃ (f : Flt) (p q : List Nat), ds = [.d (eFl f), .d (eP p), .d (eP q)] ∧ FlOk f ∧
  ∀ kvs, (∀ l, (kAt kvs (nkOf (eLs l))).isSome = true ↔ (l ∈ lsOf f.names f.rs ∧ 0 < apn f.rs p q l)) → R (.k kvs)
theorem lenaparts : ∀ ds R, Faparts ds R → ds.length = 3 := by
  rintro ds R ⟨f, p, q, rfl, _⟩; rfl
/-! aparts: slots 0 fleet, 1 one, 2 other, 3 first, 4 second, 5 found, 6 service, 7 begin, 8 edges -/
abbrev nmaparts : List Str := ["fleet", "one", "other", "first", "second", "found", "service", "begin", "edges"]
theorem scaparts : FnScope nmaparts ["fleet", "one", "other"] (defScope (topS 27)) := ⟨rfl, rfl, rfl, by decide +kernel, rfl, by decide +kernel, by decide +kernel⟩
theorem okaparts {f : Addr} {fd : FuncData} {k : Nat} (F : Fun K "aparts" "aparts" (topS 27) f fd) (gx : mg "aparts" = some (.ref f)) (b : Binds K fd ["fleet", "one", "other"] []) (M : Blt mg) (Cedges_with : Cal P w K mg base k "edges_with" 2 Fedges_with) (Cleases_of : Cal P w K mg base k "leases_of" 1 Fleases_of) (Cvertices_of : Cal P w K mg base k "vertices_of" 2 Fvertices_of) (Cway : Cal P w K mg base k "way" 2 Fway) :
    Cal P w K mg base (k + 1) "aparts" 3 Faparts := by
  refine cal_of F gx b scaparts rfl lenaparts fun cdv A outer s H E hr => ⟨_, (dss_cons (ds_par3 (i := 3) (j := 4) (l := 5) rfl scaparts.nd rfl rfl rfl (by decide) (by decide) (by decide) rfl rfl rfl (da_cons (de_fn Cvertices_of hr (Nat.le_refl _) rfl (da_cons (de_var 0) (da_cons (de_var 1) da_nil))) (da_cons (de_fn Cvertices_of hr (Nat.le_refl _) rfl (da_cons (de_var 0) (da_cons (de_var 2) da_nil))) (da_cons de_dict0 da_nil))) (by rfl)) (dss_cons (ds_for PassesOwn.never rfl (di_tup (de_fn Cleases_of hr (Nat.le_refl _) rfl (da_cons (de_var 0) da_nil))) (dg_pair (i := 6) (j := 7) rfl scaparts.nd rfl rfl (.inl rfl) (.inl rfl)) (dss_cons (ds_set (i := 8) scaparts.nd rfl (.inl rfl) (de_fn Cedges_with hr (Nat.le_refl _) rfl (da_cons (de_fn Cway hr (Nat.le_refl _) rfl (da_cons (de_ix (de_var 3) (de_var 7)) (da_cons (de_ix (de_var 4) (de_var 7)) da_nil))) (da_cons (de_var 6) da_nil)))) (dss_one (ds_if (dt_cmp (od_ne hr.hu) (de_var 8) (de_tup da_nil)) (dss_one (ds_putD hr.hu (de_len rfl rfl M.len (da_cons (de_var 8) da_nil)) (de_var 5) (de_tup (da_cons (de_var 6) (da_cons (de_var 7) da_nil))))) dss_nil)))) (dss_one (ds_ret (de_var 5))))), ?_⟩
  rintro ds R ⟨fl, p, q, rfl, hf, hq⟩
  have hr := hf.rlen
  refine ⟨_, rfl, fl, p, rfl, hf, _, rfl, fl, q, rfl, hf, _, rfl, _, rfl, fl, rfl, hf, _, rfl, ?_⟩
  refine for_inv (fun i ρ => ∃ c d e kvs, kvs.length ≤ i ∧ (∀ l, (kAt kvs (nkOf (eLs l))).isSome = true ↔ (l ∈ (lsOf fl.names fl.rs).take i ∧ 0 < apn fl.rs p q l)) ∧ ρ = [some (.dat (.d (eFl fl))), some (.dat (.d (eP p))), some (.dat (.d (eP q))), some (.dat (.d (eT eW ((List.range (fl.rs.length + 1)).map (vx fl.rs p))))), some (.dat (.d (eT eW ((List.range (fl.rs.length + 1)).map (vx fl.rs q))))), some (.dct kvs), c, d, e]) ⟨_, _, _, [], Nat.le_refl _, fun l => ⟨fun h => by simp [kAt] at h, fun h => by simp at h⟩, rfl⟩ ?_ ?_
  · rintro i ⟨x, b⟩ ρ hi ⟨c, d, e, kvs, hl, hk, rfl⟩ nx hn
    have hmem : (x, b) ∈ lsOf fl.names fl.rs := List.mem_of_getElem? hi
    have hb : b ≤ fl.rs.length := (ls_ok hmem hf).le
    have t1 := vx_len fl.rs p b
    have t2 := vx_len fl.rs q b
    have htk : (lsOf fl.names fl.rs).take (i + 1) = (lsOf fl.names fl.rs).take i ++ [(x, b)] := by rw [List.take_succ, hi]; rfl
    have hlen : i < (lsOf fl.names fl.rs).length := (List.getElem?_eq_some_iff.mp hi).1
    rw [ls_len] at hlen
    have hn1 := hf.nlen
    have b1 : b ≤ 1000 := by omega
    have hap : apn fl.rs p q (x, b) = (eds fl.rs p q b x).length := rfl
    refine ⟨_, _, rfl, lt_ok, lt_ok, _, vx_at fl.rs p hb, _, vx_at fl.rs q hb, _, rfl, _, _, rfl, Nat.le_trans t1 b1, Nat.le_trans t2 b1, _, rfl, _, x, rfl, _, rfl, lt_ok, _, rfl, le_ok, Nat.le_trans (Nat.min_le_right _ _) (by decide), _, rfl, ?_⟩
    refine ife ((okd_T okEdge).ne (eds fl.rs p q b x) []) (fun h => ?_) fun h => ?_
    · refine ⟨_, rfl, _, _, rfl, _, rfl, le_ok, _, kvs, rfl, okkLs.key (x, b), rfl, by omega, hn _ ⟨_, _, _, kPut kvs (nkOf (eLs (x, b))) _, Nat.le_trans (kPut_len _ _ _) (by omega), fun l => ?_, rfl⟩⟩
      rw [kAt_put, htk]
      by_cases e : nkOf (eLs l) = nkOf (eLs (x, b))
      · rw [if_pos e, okkLs.inj e]
        refine ⟨fun _ => ⟨by simp, ?_⟩, fun _ => rfl⟩
        rw [hap]
        exact List.length_pos_iff.mpr h
      · rw [if_neg e, hk l]
        refine and_congr_left fun _ => ?_
        rw [List.mem_append, List.mem_singleton]
        exact ⟨.inl, fun z => z.elim id fun z => absurd (by rw [z]) e⟩
    · refine hn _ ⟨_, _, _, kvs, by omega, fun l => ?_, rfl⟩
      rw [hk l, htk, List.mem_append, List.mem_singleton]
      refine ⟨fun z => ⟨.inl z.1, z.2⟩, fun z => ⟨z.1.elim id fun y => ?_, z.2⟩⟩
      rw [y, hap, Classical.not_not.mp h] at z
      exact absurd z.2 (by simp)
  · rintro ρ ⟨c, d, e, kvs, hl, hk, rfl⟩
    refine ⟨_, _, rfl, hq kvs fun l => ?_⟩
    rw [hk l, List.take_length]
end
end SH
end P3
section P4
set_option Elab.async false
set_option linter.all false
set_option maxRecDepth 100000
set_option maxHeartbeats 4000000
/-! P4: edits, barring, differences, rows -/
namespace SH
open PySem PySem.Spec PyProof.Rows L2 DL SM
section
variable {P : Program} {w : World} {K : PySem.W.Frag} {mg : Str → Option Value} {base : Heap}
abbrev ePins : List Lease → PyData := eT eLs
/-- may the lease be edited -/
def CanE (rs : List Str) (p : List Nat) (pins : List Lease) (l : Lease) : Prop := l.2 ≠ 0 ∧ l ∉ pins ∧ ∀ h ∈ p, ¬ (l.2 ≤ h ∧ h < endOf rs l)
instance (rs : List Str) (p : List Nat) (pins : List Lease) (l : Lease) : Decidable (CanE rs p pins l) := inferInstanceAs (Decidable (_ ∧ _ ∧ _))
abbrev Fcan_be_edited : Pr := fun ds R => ∃ (f : Flt) (p : List Nat) (pins : List Lease) (l : Lease), ds = [.d (eFl f), .d (eP p), .d (ePins pins), .d (eLs l)] ∧ FlOk f ∧ IsLs f l ∧ R (.d (.bool (decide (CanE f.rs p pins l))))
theorem lencan_be_edited : ∀ ds R, Fcan_be_edited ds R → ds.length = 4 := by
  rintro ds R ⟨f, p, pins, l, rfl, _⟩; rfl
/-! can_be_edited: slots 0 fleet, 1 plan, 2 pins, 3 lease, 4 end, 5 hop -/
abbrev nmcan_be_edited : List Str := ["fleet", "plan", "pins", "lease", "end", "hop"]
theorem sccan_be_edited : FnScope nmcan_be_edited ["fleet", "plan", "pins", "lease"] (defScope (topS 29)) := ⟨rfl, rfl, rfl, by decide +kernel, rfl, by decide +kernel, by decide +kernel⟩
theorem okcan_be_edited {f : Addr} {fd : FuncData} {k : Nat} (F : Fun K "can_be_edited" "can_be_edited" (topS 29) f fd) (gx : mg "can_be_edited" = some (.ref f)) (b : Binds K fd ["fleet", "plan", "pins", "lease"] []) (M : Blt mg) (Cend_of : Cal P w K mg base k "end_of" 2 Fend_of) (Cis_lease : Cal P w K mg base k "is_lease" 2 Fis_lease) :
    Cal P w K mg base (k + 1) "can_be_edited" 4 Fcan_be_edited := by
  refine cal_of F gx b sccan_be_edited rfl lencan_be_edited fun cdv A outer s H E hr => ⟨_, (dss_cons (ds_if (dt_w (dw_or (dt_not (dt_val (de_fn Cis_lease hr (Nat.le_refl _) rfl (da_cons (de_var 0) (da_cons (de_var 3) da_nil))))) (dw_or (dt_cmp (od_eq hr.hu) (de_ix (de_var 3) de_int) de_int) (dw_or1 (dt_cmp (od_in hr.hu) (de_var 3) (de_var 2)))))) (dss_one (ds_ret de_bl)) dss_nil) (dss_cons (ds_set (i := 4) sccan_be_edited.nd rfl (.inr rfl) (de_fn Cend_of hr (Nat.le_refl _) rfl (da_cons (de_var 0) (da_cons (de_var 3) da_nil)))) (dss_one (ds_ret (de_cmp (od_eq hr.hu) (de_lc rfl sccan_be_edited.nd (di_tup (de_var 1)) (blkOk_by (own := [("hop", 5)]) (N := nmcan_be_edited) (sc := defScope (topS 29)) (by decide +kernel)) (fun _ _ _ _ _ => (dg_name (i := 5) sccan_be_edited.nd rfl (.inl rfl))) (fun _ _ _ _ _ => (dts_one (dt_chain od_le od_lt (de_ix (de_var 3) de_int) (de_var 5) (de_var 4)))) (fun _ _ _ _ _ => (de_var 5))) (de_lst da_nil)))))), ?_⟩
  rintro ds R ⟨fl, p, pins, ⟨x, b⟩, rfl, hf, hl, q⟩
  refine ⟨_, rfl, fl, (x, b), rfl, hf, hl, _, rfl, _, rfl, Nat.zero_le 60, _, rfl, ife (okd_nat.eq b 0) (fun h => ?_) fun h => ?_⟩
  · refine ⟨_, _, rfl, rb (F := fun b => R (.d (.bool b))) (p := CanE fl.rs p pins (x, b)) ?_ q⟩
    exact (decide_eq_false fun c => c.1 h).symm
  · refine ⟨by have := okLs.dep (x, b); exact Nat.le_trans this (by decide), _, rfl, ife (any_e okLs pins (x, b)) (fun h2 => ?_) fun h2 => ?_⟩
    · refine ⟨_, _, rfl, rb (F := fun b => R (.d (.bool b))) (p := CanE fl.rs p pins (x, b)) ?_ q⟩
      exact (decide_eq_false fun c => c.2.1 h2).symm
    · refine ⟨_, rfl, fl, (x, b), rfl, hf, hl, _, rfl, lt_ok, _, rfl, free_ok, ?_⟩
      refine lc_N (enc := eN) (encB := eN) (fun i => decide (b ≤ i ∧ i < endOf fl.rs (x, b))) id lt_ok rfl (fun i hi K h => ?_) (fun i hi e K h => h) ?_
      · refine ⟨_, rfl, _, rfl, ifd (fun c => ?_) fun c => ?_⟩
        · exact ⟨_, rfl, rb (F := fun b => K b _) (decide_eq_decide.mpr ⟨fun y => ⟨by omega, by omega⟩, fun y => by omega⟩) h⟩
        · exact ⟨_, rfl, rb (F := fun b => K b _) (p := b ≤ i ∧ i < endOf fl.rs (x, b)) (decide_eq_false fun y => c (by omega)).symm h⟩
      · rw [List.map_id]
        refine ⟨_, rfl, le_ok, Nat.le_trans (Nat.min_le_right _ _) (by decide), _, _, rfl, rb (F := fun b => R (.d (.bool b))) ?_ q⟩
        refine ((okd_L okd_nat).eq _ []).trans (decide_eq_decide.mpr ?_)
        rw [List.filter_eq_nil_iff]
        exact ⟨fun y => ⟨h, h2, fun i hi c => y i hi (decide_eq_true c)⟩, fun y i hi c => y.2.2 i hi (of_decide_eq_true c)⟩
abbrev Fedits_of : Pr := fun ds R => ∃ (f : Flt) (p : List Nat) (pins : List Lease), ds = [.d (eFl f), .d (eP p), .d (ePins pins)] ∧ FlOk f ∧ R (.d (ePins ((lsOf f.names f.rs).filter fun l => decide (CanE f.rs p pins l))))
theorem lenedits_of : ∀ ds R, Fedits_of ds R → ds.length = 3 := by
  rintro ds R ⟨f, p, pins, rfl, _⟩; rfl
/-! edits_of: slots 0 fleet, 1 plan, 2 pins, 3 lease -/
abbrev nmedits_of : List Str := ["fleet", "plan", "pins", "lease"]
theorem scedits_of : FnScope nmedits_of ["fleet", "plan", "pins"] (defScope (topS 30)) := ⟨rfl, rfl, rfl, by decide +kernel, rfl, by decide +kernel, by decide +kernel⟩
theorem okedits_of {f : Addr} {fd : FuncData} {k : Nat} (F : Fun K "edits_of" "edits_of" (topS 30) f fd) (gx : mg "edits_of" = some (.ref f)) (b : Binds K fd ["fleet", "plan", "pins"] []) (M : Blt mg) (Ccan_be_edited : Cal P w K mg base k "can_be_edited" 4 Fcan_be_edited) (Cleases_of : Cal P w K mg base k "leases_of" 1 Fleases_of) :
    Cal P w K mg base (k + 1) "edits_of" 3 Fedits_of := by
  refine cal_of F gx b scedits_of rfl lenedits_of fun cdv A outer s H E hr => ⟨_, (dss_one (ds_ret (de_tupc rfl rfl M.tuple (da_cons (de_lc rfl scedits_of.nd (di_tup (de_fn Cleases_of hr (Nat.le_refl _) rfl (da_cons (de_var 0) da_nil))) (blkOk_by (own := [("lease", 3)]) (N := nmedits_of) (sc := defScope (topS 30)) (by decide +kernel)) (fun _ _ _ _ _ => (dg_name (i := 3) scedits_of.nd rfl (.inl rfl))) (fun _ _ _ _ _ => (dts_one (dt_val (de_fn Ccan_be_edited hr (Nat.le_refl _) rfl (da_cons (de_var 0) (da_cons (de_var 1) (da_cons (de_var 2) (da_cons (de_var 3) da_nil)))))))) (fun _ _ _ _ _ => (de_var 3))) da_nil)))), ?_⟩
  rintro ds R ⟨fl, p, pins, rfl, hf, q⟩
  refine ⟨_, rfl, fl, rfl, hf, _, rfl, free_ok, ?_⟩
  refine lc_N (enc := eLs) (encB := eLs) (fun l => decide (CanE fl.rs p pins l)) id lt_ok rfl (fun l hl K h => ?_) (fun i hi e K h => h) ?_
  · exact ⟨_, rfl, fl, p, pins, l, rfl, hf, ls_ok hl hf, _, rfl, h⟩
  · rw [List.map_id]
    exact ⟨_, _, rfl, q⟩
/-- the hops that an edit turns -/
def turned (rs : List Str) (l : Lease) : List Nat := if endOf rs l < rs.length then [l.2 - 1, endOf rs l] else [l.2 - 1]
abbrev Fturned_hops : Pr := fun ds R => ∃ (f : Flt) (l : Lease), ds = [.d (eFl f), .d (eLs l)] ∧ FlOk f ∧ IsLs f l ∧ l.2 ≠ 0 ∧ R (.d (eL eN (turned f.rs l)))
theorem lenturned_hops : ∀ ds R, Fturned_hops ds R → ds.length = 2 := by
  rintro ds R ⟨f, l, rfl, _⟩; rfl
/-! turned_hops: slots 0 fleet, 1 lease, 2 end -/
abbrev nmturned_hops : List Str := ["fleet", "lease", "end"]
theorem scturned_hops : FnScope nmturned_hops ["fleet", "lease"] (defScope (topS 31)) := ⟨rfl, rfl, rfl, by decide +kernel, rfl, by decide +kernel, by decide +kernel⟩
theorem okturned_hops {f : Addr} {fd : FuncData} {k : Nat} (F : Fun K "turned_hops" "turned_hops" (topS 31) f fd) (gx : mg "turned_hops" = some (.ref f)) (b : Binds K fd ["fleet", "lease"] []) (M : Blt mg) (Cend_of : Cal P w K mg base k "end_of" 2 Fend_of) (Csize : Cal P w K mg base k "size" 1 Fsize) :
    Cal P w K mg base (k + 1) "turned_hops" 2 Fturned_hops := by
  refine cal_of F gx b scturned_hops rfl lenturned_hops fun cdv A outer s H E hr => ⟨_, (dss_cons (ds_set (i := 2) scturned_hops.nd rfl (.inl rfl) (de_fn Cend_of hr (Nat.le_refl _) rfl (da_cons (de_var 0) (da_cons (de_var 1) da_nil)))) (dss_one (ds_ret (de_if (dt_cmp od_lt (de_var 2) (de_fn Csize hr (Nat.le_refl _) rfl (da_cons (de_var 0) da_nil))) (de_lst (da_cons (de_op od_sub (de_ix (de_var 1) de_int) de_int) (da_cons (de_var 2) da_nil))) (de_lst (da_cons (de_op od_sub (de_ix (de_var 1) de_int) de_int) da_nil)))))), ?_⟩
  rintro ds R ⟨fl, ⟨x, b⟩, rfl, hf, hl, h0, q⟩
  have h0 : b ≠ 0 := h0
  have e : (b : Int) - 1 = ((b - 1 : Nat) : Int) := by omega
  unfold turned at q
  refine ⟨_, rfl, fl, (x, b), rfl, hf, hl, _, rfl, lt_ok, _, rfl, fl, rfl, _, rfl, ifd (fun c => ?_) fun c => ?_⟩
  · rw [if_pos (by omega)] at q
    exact ⟨_, rfl, True.intro, _, rfl, le_ok, _, _, rfl, rl (F := fun z => R (.d (.list [.int z, _]))) e q⟩
  · rw [if_neg (by omega)] at q
    exact ⟨_, rfl, True.intro, _, rfl, le_ok, _, _, rfl, rl (F := fun z => R (.d (.list [.int z]))) e q⟩
/-- the plan behind an edit -/
noncomputable def edt (rs : List Str) (p : List Nat) (l : Lease) : List Nat := srtE eN ((p.filter fun h => decide (h ∉ turned rs l)) ++ (turned rs l).filter fun h => decide (h ∉ p))
theorem srt_nat (l : List Nat) : SrtOk (l.map eN) := srt_others okd_nat (by decide) (fun a b => alike_int _ _) (fun a => ⟨by simp, by simp⟩) l
abbrev Fedited : Pr := fun ds R => ∃ (f : Flt) (p : List Nat) (pins : List Lease) (l : Lease), ds = [.d (eFl f), .d (eP p), .d (ePins pins), .d (eLs l)] ∧ FlOk f ∧ p.length ≤ 1000 ∧ IsLs f l ∧ CanE f.rs p pins l ∧ R (.d (eP (edt f.rs p l)))
theorem lenedited : ∀ ds R, Fedited ds R → ds.length = 4 := by
  rintro ds R ⟨f, p, pins, l, rfl, _⟩; rfl
/-! edited: slots 0 fleet, 1 plan, 2 pins, 3 lease, 4 turned, 5 stay, 6 hop -/
abbrev nmedited : List Str := ["fleet", "plan", "pins", "lease", "turned", "stay", "hop"]
theorem scedited : FnScope nmedited ["fleet", "plan", "pins", "lease"] (defScope (topS 32)) := ⟨rfl, rfl, rfl, by decide +kernel, rfl, by decide +kernel, by decide +kernel⟩
theorem okedited {f : Addr} {fd : FuncData} {k : Nat} (F : Fun K "edited" "edited" (topS 32) f fd) (gx : mg "edited" = some (.ref f)) (b : Binds K fd ["fleet", "plan", "pins", "lease"] []) (M : Blt mg) (Ccan_be_edited : Cal P w K mg base k "can_be_edited" 4 Fcan_be_edited) (Cturned_hops : Cal P w K mg base k "turned_hops" 2 Fturned_hops) :
    Cal P w K mg base (k + 1) "edited" 4 Fedited := by
  refine cal_of F gx b scedited rfl lenedited fun cdv A outer s H E hr => ⟨_, (dss_cons (ds_if (dt_not (dt_val (de_fn Ccan_be_edited hr (Nat.le_refl _) rfl (da_cons (de_var 0) (da_cons (de_var 1) (da_cons (de_var 2) (da_cons (de_var 3) da_nil))))))) (dss_one ds_never) dss_nil) (dss_cons (ds_set (i := 4) scedited.nd rfl (.inr rfl) (de_fn Cturned_hops hr (Nat.le_refl _) rfl (da_cons (de_var 0) (da_cons (de_var 3) da_nil)))) (dss_cons (ds_setLc (i := 5) rfl scedited.nd rfl rfl (sw_true rfl rfl rfl (by decide +kernel)) (di_tup (de_var 1)) (blkOk_by (own := [("hop", 6)]) (N := nmedited) (sc := defScope (topS 32)) (by decide +kernel)) (fun _ _ _ _ _ => (dg_name (i := 6) scedited.nd rfl (.inl rfl))) (fun _ _ _ _ _ => (dts_one (dt_cmp (od_notin hr.hu) (de_var 6) (de_var 4)))) (fun _ _ _ _ _ => (de_var 6))) (dss_one (ds_ret (de_tupc rfl rfl M.tuple (da_cons (de_sorted hr rfl rfl M.sorted (da_cons (de_op od_add (de_var 5) (de_lc rfl scedited.nd (di_list (de_var 4)) (blkOk_by (own := [("hop", 6)]) (N := nmedited) (sc := defScope (topS 32)) (by decide +kernel)) (fun _ _ _ _ _ => (dg_name (i := 6) scedited.nd rfl (.inl rfl))) (fun _ _ _ _ _ => (dts_one (dt_cmp (od_notin hr.hu) (de_var 6) (de_var 1)))) (fun _ _ _ _ _ => (de_var 6)))) da_nil)) da_nil))))))), ?_⟩
  rintro ds R ⟨fl, p, pins, l, rfl, hf, hp, hl, hc, q⟩
  refine ⟨_, rfl, fl, p, pins, l, rfl, hf, hl, _, rfl, ifnt hc ?_⟩
  refine ⟨_, rfl, fl, l, rfl, hf, hl, hc.1, _, rfl, lt_ok, _, rfl, free_ok, ?_⟩
  refine lc_N (enc := eN) (encB := eN) (fun h => decide (h ∉ turned fl.rs l)) id lt_ok rfl (fun i hi K h => ?_) (fun i hi e K h => h) ?_
  · refine ⟨Nat.zero_le 60, _, rfl, rb (F := fun b => K b _) (p := i ∉ turned fl.rs l) ?_ h⟩
    rw [decide_not, ← any_e okd_nat]
    rfl
  · rw [List.map_id]
    refine ⟨_, rfl, lt_ok, _, rfl, free_ok, ?_⟩
    refine lc_N (enc := eN) (encB := eN) (fun h => decide (h ∉ p)) id lt_ok rfl (fun i hi K h => ?_) (fun i hi e K h => h) ?_
    · refine ⟨Nat.zero_le 60, _, rfl, rb (F := fun b => K b _) (p := i ∉ p) ?_ h⟩
      rw [decide_not, ← any_e okd_nat]
      rfl
    · rw [List.map_id]
      refine ⟨?_, ?_⟩
      · have h1 := List.length_filter_le (fun h => decide (h ∉ turned fl.rs l)) p
        have h2 := List.length_filter_le (fun h => decide (h ∉ p)) (turned fl.rs l)
        have h3 : (turned fl.rs l).length ≤ 2 := by unfold turned; split <;> simp
        simp only [List.length_map]
        exact Nat.le_trans (m := 2000) (by omega) (by decide)
      · rw [← List.map_append]
        refine ⟨srt_nat _, _, _, rfl, ?_⟩
        rw [srtE_map]
        exact q
abbrev Fbarring : Pr := fun ds R => ∃ (f : Flt) (pins : List Lease) (p q : List Nat), ds = [.d (eFl f), .d (ePins pins), .d (eP p), .d (eP q)] ∧ FlOk f ∧ (∀ l ∈ pins, l ∈ lsOf f.names f.rs) ∧ R (.d (ePins (pins.filter fun l => decide (0 < apn f.rs p q l))))
theorem lenbarring : ∀ ds R, Fbarring ds R → ds.length = 4 := by
  rintro ds R ⟨f, pins, p, q, rfl, _⟩; rfl
/-! barring: slots 0 fleet, 1 pins, 2 one, 3 other, 4 found, 5 lease -/
abbrev nmbarring : List Str := ["fleet", "pins", "one", "other", "found", "lease"]
theorem scbarring : FnScope nmbarring ["fleet", "pins", "one", "other"] (defScope (topS 42)) := ⟨rfl, rfl, rfl, by decide +kernel, rfl, by decide +kernel, by decide +kernel⟩
theorem okbarring {f : Addr} {fd : FuncData} {k : Nat} (F : Fun K "barring" "barring" (topS 42) f fd) (gx : mg "barring" = some (.ref f)) (b : Binds K fd ["fleet", "pins", "one", "other"] []) (M : Blt mg) (Caparts : Cal P w K mg base k "aparts" 3 Faparts) :
    Cal P w K mg base (k + 1) "barring" 4 Fbarring := by
  refine cal_of F gx b scbarring rfl lenbarring fun cdv A outer s H E hr => ⟨_, (dss_cons (ds_set (i := 4) scbarring.nd rfl (.inr rfl) (de_fn Caparts hr (Nat.le_refl _) rfl (da_cons (de_var 0) (da_cons (de_var 2) (da_cons (de_var 3) da_nil))))) (dss_one (ds_ret (de_tupc rfl rfl M.tuple (da_cons (de_lc rfl scbarring.nd (di_tup (de_var 1)) (blkOk_by (own := [("lease", 5)]) (N := nmbarring) (sc := defScope (topS 42)) (by decide +kernel)) (fun _ _ _ _ _ => (dg_name (i := 5) scbarring.nd rfl (.inl rfl))) (fun _ _ _ _ _ => (dts_one (dt_cmp (od_inD hr.hu) (de_var 5) (de_var 4)))) (fun _ _ _ _ _ => (de_var 5))) da_nil))))), ?_⟩
  rintro ds R ⟨fl, pins, p, q, rfl, hf, hp, hq⟩
  refine ⟨_, rfl, fl, p, q, rfl, hf, fun kvs hk => ⟨_, rfl, lt_ok, _, rfl, free_ok, ?_⟩⟩
  refine lc_N (enc := eLs) (encB := eLs) (fun l => decide (0 < apn fl.rs p q l)) id lt_ok rfl (fun l hl K h => ?_) (fun i hi e K h => h) ?_
  · refine ⟨_, kvs, rfl, rfl, okkLs.key l, _, rfl, rb (F := fun b => K b _) (p := 0 < apn fl.rs p q l) ?_ h⟩
    rw [Bool.eq_iff_iff, decide_eq_true_iff]
    exact (hk l).trans ⟨fun y => y.2, fun y => ⟨hp l hl, y⟩⟩
  · rw [List.map_id]
    exact ⟨_, _, rfl, hq⟩
abbrev Fleads : Pr := fun ds R => ∃ (f : Flt) (pins : List Lease) (p q : List Nat), ds = [.d (eFl f), .d (ePins pins), .d (eP p), .d (eP q)] ∧ FlOk f ∧ (∀ l ∈ pins, l ∈ lsOf f.names f.rs) ∧ R (.d (.bool (decide (pins.filter (fun l => decide (0 < apn f.rs p q l)) = []))))
theorem lenleads : ∀ ds R, Fleads ds R → ds.length = 4 := by
  rintro ds R ⟨f, pins, p, q, rfl, _⟩; rfl
/-! leads: slots 0 fleet, 1 pins, 2 one, 3 other -/
abbrev nmleads : List Str := ["fleet", "pins", "one", "other"]
theorem scleads : FnScope nmleads ["fleet", "pins", "one", "other"] (defScope (topS 43)) := ⟨rfl, rfl, rfl, by decide +kernel, rfl, by decide +kernel, by decide +kernel⟩
theorem okleads {f : Addr} {fd : FuncData} {k : Nat} (F : Fun K "leads" "leads" (topS 43) f fd) (gx : mg "leads" = some (.ref f)) (b : Binds K fd ["fleet", "pins", "one", "other"] []) (M : Blt mg) (Cbarring : Cal P w K mg base k "barring" 4 Fbarring) :
    Cal P w K mg base (k + 1) "leads" 4 Fleads := by
  refine cal_of F gx b scleads rfl lenleads fun cdv A outer s H E hr => ⟨_, (dss_one (ds_ret (de_cmp (od_eq hr.hu) (de_fn Cbarring hr (Nat.le_refl _) rfl (da_cons (de_var 0) (da_cons (de_var 1) (da_cons (de_var 2) (da_cons (de_var 3) da_nil))))) (de_tup da_nil)))), ?_⟩
  rintro ds R ⟨fl, pins, p, q, rfl, hf, hp, hq⟩
  exact ⟨_, rfl, fl, pins, p, q, rfl, hf, hp, _, rfl, le_ok, Nat.le_trans (Nat.min_le_right _ _) (by decide), _, _, rfl, rb (F := fun b => R (.d (.bool b))) ((okd_T okLs).eq _ []) hq⟩
end
end SH
end P4
section P5
set_option Elab.async false
set_option linter.all false
set_option maxRecDepth 100000
set_option maxHeartbeats 4000000
/-! P5: edits_from, class_of, fewest_edits -/
namespace SH
open PySem PySem.Spec PyProof.Rows L2 DL SM
/-- sorted ints -/
theorem srt_sorted (l : List Nat) : (srtE eN l).Pairwise (· ≤ ·) := by
  have e : PySem.W.dataLe false eN = fun a b : Nat => decide ((a : Int) ≤ (b : Int)) := PySem.W.dataLe_int fun n : Nat => (n : Int)
  have h : (srtE eN l).Pairwise fun a b => (PySem.W.dataLe false eN a b) = true := by
    refine List.pairwise_mergeSort (fun a b c h1 h2 => ?_) (fun a b => ?_) l
    · rw [e] at h1 h2 ⊢
      simp only [decide_eq_true_iff] at h1 h2 ⊢
      omega
    · rw [e]
      simp only [Bool.or_eq_true, decide_eq_true_iff]
      omega
  refine h.imp fun {a b} q => ?_
  rw [e] at q
  simp only [decide_eq_true_iff] at q
  omega
theorem planOk_srt {n : Nat} {l : List Nat} (h : l.Nodup) (hb : ∀ i ∈ l, i < n) : PlanOk n (srtE eN l) := by
  have hp := srtE_perm eN l
  refine ⟨?_, fun i hi => hb i (hp.mem_iff.mp hi)⟩
  have h1 := srt_sorted l
  have h2 : (srtE eN l).Nodup := hp.nodup_iff.mpr h
  have := List.pairwise_and_iff.mpr ⟨h1, h2⟩
  exact this.imp fun {a b} q => by
    have := q.1
    have := q.2
    omega
theorem endOf_le (rs : List Str) (l : Lease) : endOf rs l ≤ rs.length ∧ (endOf rs l < rs.length → l.2 ≤ endOf rs l ∧ rs[endOf rs l]? = some l.1) := by
  unfold endOf
  cases e : (((rsOf rs l.1).filter fun i => decide (l.2 ≤ i)).head?) with
  | none => exact ⟨Nat.le_refl _, fun h => absurd h (Nat.lt_irrefl _)⟩
  | some i =>
    have hm := List.mem_of_head? e
    have h1 := List.mem_filter.mp hm
    have h2 : i ∈ rsOf rs l.1 := h1.1
    unfold rsOf at h2
    obtain ⟨⟨s, j⟩, h3, h4⟩ := List.mem_map.mp h2
    have h5 := List.mem_filter.mp h3
    have h6 := List.mem_zipIdx_iff_getElem?.mp h5.1
    have h4 : j = i := h4
    subst h4
    have h7 : s = l.1 := of_decide_eq_true h5.2
    have h6 : rs[j]? = some s := h6
    refine ⟨Nat.le_of_lt (List.getElem?_eq_some_iff.mp h6).1, fun _ => ⟨of_decide_eq_true h1.2, by rw [← h7]; exact h6⟩⟩
theorem turned_nd {rs : List Str} {l : Lease} (h0 : l.2 ≠ 0) : (turned rs l).Nodup := by
  unfold turned
  split
  · rename_i h
    have := ((endOf_le rs l).2 h).1
    refine List.nodup_cons.mpr ⟨fun m => ?_, by simp⟩
    have := List.mem_singleton.mp m
    omega
  · simp
theorem edt_ok {f : Flt} {p : List Nat} {l : Lease} (h : PlanOk f.rs.length p) (hl : IsLs f l) (h0 : l.2 ≠ 0) : PlanOk f.rs.length (edt f.rs p l) := by
  refine planOk_srt (List.nodup_append.mpr ⟨h.nodup.filter _, (turned_nd h0).filter _, fun a ha b hb e => ?_⟩) fun i hi => ?_
  · subst e
    exact (of_decide_eq_true (List.mem_filter.mp hb).2) (List.mem_filter.mp ha).1
  · rcases List.mem_append.mp hi with h1 | h1
    · exact h.2 i (List.mem_filter.mp h1).1
    · have h2 := (List.mem_filter.mp h1).1
      have hle := hl.le
      unfold turned at h2
      split at h2
      · rename_i hlt
        rcases List.mem_cons.mp h2 with e | e
        · omega
        · have := List.mem_singleton.mp e
          omega
      · have := List.mem_singleton.mp h2
        omega
noncomputable def nbr (f : Flt) (pins : List Lease) (p : List Nat) : List (List Nat) := ((lsOf f.names f.rs).filter fun l => decide (CanE f.rs p pins l)).map (edt f.rs p)
abbrev dictP (fd : List (List Nat × Nat)) : List (NestedKey × PyData) := fd.map fun x => (nkOf (eP x.1), eN x.2)
theorem dictP_some (fd : List (List Nat × Nat)) (q : List Nat) : (kAt (dictP fd) (nkOf (eP q))).isSome = decide (q ∈ fd.map (·.1)) := by
  induction fd with
  | nil => simp [kAt]
  | cons x fd ih =>
    have e : dictP (x :: fd) = (nkOf (eP x.1), eN x.2) :: dictP fd := rfl
    rw [e, kAt_cons, List.map_cons]
    by_cases h : x.1 = q
    · rw [if_pos (by rw [h]), h]; simp
    · rw [if_neg (fun z => h (okkP.inj z)), ih]
      exact decide_eq_decide.mpr ⟨fun m => List.mem_cons_of_mem _ m, fun m => (List.mem_cons.mp m).elim (fun e => absurd e.symm h) id⟩
theorem dictP_at {fd : List (List Nat × Nat)} {q : List Nat} {d : Nat} (nd : (fd.map (·.1)).Nodup) (h : (q, d) ∈ fd) : kAt (dictP fd) (nkOf (eP q)) = some (eN d) := by
  induction fd with
  | nil => cases h
  | cons x fd ih =>
    have e : dictP (x :: fd) = (nkOf (eP x.1), eN x.2) :: dictP fd := rfl
    rw [e, kAt_cons]
    rw [List.map_cons] at nd
    have nd := List.nodup_cons.mp nd
    rcases List.mem_cons.mp h with h | h
    · subst h; rw [if_pos rfl]
    · rw [if_neg fun z => nd.1 ?_]
      · exact ih nd.2 h
      · rw [okkP.inj z]; exact List.mem_map.mpr ⟨_, h, rfl⟩
theorem dictP_put {fd : List (List Nat × Nat)} {q : List Nat} {d : Nat} (h : q ∉ fd.map (·.1)) : kPut (dictP fd) (nkOf (eP q)) (eN d) = dictP (fd ++ [(q, d)]) := by
  unfold kPut
  rw [if_neg (by rw [dictP_some]; simpa using h)]
  show _ = (fd ++ [(q, d)]).map _
  rw [List.map_append]
  rfl
theorem two10 {n : Nat} (h : n ≤ 10) : 2 ^ n ≤ 1024 := Nat.pow_le_pow_right (n := 2) (by decide) h
section
variable {P : Program} {w : World} {K : PySem.W.Frag} {mg : Str → Option Value} {base : Heap}
abbrev Fedits_from : Pr := fun ds R => ∃ (f : Flt) (pins : List Lease) (p : List Nat), ds = [.d (eFl f), .d (ePins pins), .d (eP p)] ∧ FlOk f ∧ f.rs.length ≤ 10 ∧ PlanOk f.rs.length p ∧ R (.k (dictP (bfs 2000 (nbr f pins) p)))
theorem lenedits_from : ∀ ds R, Fedits_from ds R → ds.length = 3 := by
  rintro ds R ⟨f, pins, p, rfl, _⟩; rfl
abbrev waitE (fd : List (List Nat × Nat)) : List PyData := (fd.map (·.1)).map eP
/-! edits_from: slots 0 fleet, 1 pins, 2 plan, 3 found, 4 waiting, 5 at, 6 here, 7 lease, 8 later -/
abbrev nmedits_from : List Str := ["fleet", "pins", "plan", "found", "waiting", "at", "here", "lease", "later"]
theorem scedits_from : FnScope nmedits_from ["fleet", "pins", "plan"] (defScope (topS 46)) := ⟨rfl, rfl, rfl, by decide +kernel, rfl, by decide +kernel, by decide +kernel⟩
theorem okedits_from {f : Addr} {fd : FuncData} {k : Nat} (F : Fun K "edits_from" "edits_from" (topS 46) f fd) (gx : mg "edits_from" = some (.ref f)) (b : Binds K fd ["fleet", "pins", "plan"] []) (M : Blt mg) (Cedited : Cal P w K mg base k "edited" 4 Fedited) (Cedits_of : Cal P w K mg base k "edits_of" 3 Fedits_of) :
    Cal P w K mg base (k + 1) "edits_from" 3 Fedits_from := by
  refine cal_of F gx b scedits_from rfl lenedits_from fun cdv A outer s H E hr => ⟨_, (dss_cons (ds_par3 (i := 3) (j := 4) (l := 5) rfl scedits_from.nd rfl rfl rfl (by decide) (by decide) (by decide) rfl rfl rfl (da_cons (de_dict1 hr.hu (de_var 2) de_int) (da_cons (de_lst (da_cons (de_var 2) da_nil)) (da_cons de_int da_nil))) (by rfl)) (dss_cons (ds_while PassesOwn.never (dt_cmp od_lt (de_var 5) (de_len rfl rfl M.len (da_cons (de_var 4) da_nil))) (dss_cons (ds_set (i := 6) scedits_from.nd rfl (.inl rfl) (de_ix (de_var 4) (de_var 5))) (dss_cons (ds_for PassesOwn.never rfl (di_tup (de_fn Cedits_of hr (Nat.le_refl _) rfl (da_cons (de_var 0) (da_cons (de_var 6) (da_cons (de_var 1) da_nil))))) (dg_name (i := 7) scedits_from.nd rfl (.inl rfl)) (dss_cons (ds_set (i := 8) scedits_from.nd rfl (.inl rfl) (de_fn Cedited hr (Nat.le_refl _) rfl (da_cons (de_var 0) (da_cons (de_var 6) (da_cons (de_var 1) (da_cons (de_var 7) da_nil)))))) (dss_one (ds_if (dt_cmp (od_notinD hr.hu) (de_var 8) (de_var 3)) (dss_cons (ds_putD hr.hu (de_op od_add (de_ixD hr.hu (de_var 3) (de_var 6)) de_int) (de_var 3) (de_var 8)) (dss_one (ds_expr (de_append rfl (de_var 4) (da_cons (de_var 8) da_nil))))) dss_nil)))) (dss_cons (ds_if (dt_cmp od_gt (de_lenD rfl rfl M.len (da_cons (de_var 3) da_nil)) (de_globI rfl M.MOST)) (dss_one ds_never) dss_nil) (dss_one (ds_augAdd (i := 5) scedits_from.nd rfl (.inl rfl) de_int)))))) (dss_one (ds_ret (de_var 3))))), ?_⟩
  rintro ds R ⟨fl, pins, p, rfl, hf, h10, hp, q⟩
  refine ⟨_, _, rfl, okkP.key p, rfl, _, rfl, le_ok, _, rfl, ?_⟩
  refine ⟨fun m ρ => ∃ fd i c d e, m = 2000 - i ∧ i ≤ fd.length ∧ BfsOk (PlanOk fl.rs.length) fd ∧ bfsRun (nbr fl pins) (2000 - i) fd i = bfs 2000 (nbr fl pins) p ∧
    ρ = [some (.dat (.d (eFl fl))), some (.dat (.d (ePins pins))), some (.dat (.d (eP p))), some (.dct (dictP fd)), some (.lst (waitE fd)), some (.dat (.d (eN i))), c, d, e],
    ⟨_, [(p, 0)], 0, _, _, _, rfl, Nat.zero_le _, ⟨by simp, fun x hx => by rw [List.mem_singleton.mp hx]; exact hp⟩, rfl, rfl⟩, ?_⟩
  rintro m ρ ⟨fd, i, c, d, e, rfl, hi, ok, run, rfl⟩
  have hfew : fd.length ≤ 1024 := by
    have h1 := plans_few (n := fl.rs.length) (l := fd.map (·.1)) ok.nd fun x hx => by
      obtain ⟨y, hy, rfl⟩ := List.mem_map.mp hx
      exact ok.ok y hy
    rw [List.length_map] at h1
    exact Nat.le_trans h1 (two10 h10)
  refine ⟨_, rfl, ifd (fun h => ?_) fun h => ?_⟩
  · have hlt : i < fd.length := by simpa using h
    obtain ⟨⟨here, dep⟩, hx⟩ : ∃ x, fd[i]? = some x := ⟨_, List.getElem?_eq_getElem hlt⟩
    have hok : PlanOk fl.rs.length here := ok.ok _ (List.mem_of_getElem? hx)
    have hw : (fd.map (·.1))[i]? = some here := by rw [List.getElem?_map, hx]; rfl
    have e1 : 2000 - i = (2000 - (i + 1)) + 1 := by omega
    rw [e1, bfsRun, hx] at run
    refine ⟨_, atI_map hw, _, rfl, lt_ok, _, rfl, fl, here, pins, rfl, hf, _, rfl, ?_⟩
    refine for_fold (fun fd' ρ => (∃ t, fd' = fd ++ t) ∧ BfsOk (PlanOk fl.rs.length) fd' ∧ ∃ d e, ρ = [some (.dat (.d (eFl fl))), some (.dat (.d (ePins pins))), some (.dat (.d (eP p))), some (.dct (dictP fd')), some (.lst (waitE fd')), some (.dat (.d (eN i))), some (.dat (.d (eP here))), d, e])
      (fun fd' l => add1 dep fd' (edt fl.rs here l)) _ fd _ ⟨⟨[], by simp⟩, ok, _, _, rfl⟩ ?_ ?_
    · rintro l fd' ρ hl ⟨⟨t, ht⟩, ok', d, e, rfl⟩ nx hn
      have hl2 := List.mem_filter.mp hl
      have hc : CanE fl.rs here pins l := of_decide_eq_true hl2.2
      have hls := ls_ok hl2.1 hf
      have hlen := hok.len
      have hrl := hf.rlen
      have hok2 := edt_ok hok hls hc.1
      have okn := ok'.add1 dep hok2
      obtain ⟨t2, ht2⟩ := add1_pre dep fd' (edt fl.rs here l)
      have hpre : ∃ t, add1 dep fd' (edt fl.rs here l) = fd ++ t := ⟨t ++ t2, by rw [ht2, ht, List.append_assoc]⟩
      have hmem : (here, dep) ∈ fd' := by rw [ht]; exact List.mem_append_left _ (List.mem_of_getElem? hx)
      have hfew2 : fd'.length ≤ 1024 := by
        have h1 := plans_few (n := fl.rs.length) (l := fd'.map (·.1)) ok'.nd fun x hx => by
          obtain ⟨y, hy, rfl⟩ := List.mem_map.mp hx
          exact ok'.ok y hy
        rw [List.length_map] at h1
        exact Nat.le_trans h1 (two10 h10)
      refine ⟨lt_ok, _, rfl, fl, here, pins, l, rfl, hf, by omega, hls, hc, _, rfl, lt_ok, _, _, rfl, rfl, okkP.key _, _, rfl, ?_⟩
      refine ife (p := edt fl.rs here l ∉ fd'.map (·.1)) (dp := inferInstance) ?_ (fun hm => ?_) fun hm => ?_
      · rw [decide_not, ← dictP_some]; rfl
      · refine ⟨_, rfl, okkP.key here, .inl ⟨_, _, rfl, dictP_at ok'.nd hmem, _, rfl, _, _, rfl, _, _, rfl, okkP.key _, rfl, ?_, ?_⟩⟩
        · simp only [List.length_map]; omega
        · refine ⟨_, _, rfl, _, rfl, _, rfl, ?_, hn _ ⟨hpre, okn, some (.dat (.d (eLs l))), some (.dat (.d (eP (edt fl.rs here l)))), ?_⟩⟩
          · simp only [List.length_map]; exact Nat.lt_of_le_of_lt hfew2 (by decide)
          · have e3 : add1 dep fd' (edt fl.rs here l) = fd' ++ [(edt fl.rs here l, dep + 1)] := by unfold add1; rw [if_neg hm]
            have e4 := dictP_put (d := dep + 1) hm
            rw [e3, ← e4]
            show _ = [_, _, _, _, some (Cell.lst (((fd' ++ [(edt fl.rs here l, dep + 1)]).map (·.1)).map eP)), _, _, _, _]
            rw [List.map_append, List.map_append]
            rfl
      · refine hn _ ⟨hpre, okn, some (.dat (.d (eLs l))), some (.dat (.d (eP (edt fl.rs here l)))), ?_⟩
        have e3 : add1 dep fd' (edt fl.rs here l) = fd' := by unfold add1; rw [if_pos (Classical.not_not.mp hm)]
        rw [e3]
        rfl
    · rintro ρ ⟨⟨t, ht⟩, ok', d, e, rfl⟩
      have hfold : ((lsOf fl.names fl.rs).filter fun l => decide (CanE fl.rs here pins l)).foldl (fun fd' l => add1 dep fd' (edt fl.rs here l)) fd = (nbr fl pins here).foldl (add1 dep) fd := by
        unfold nbr
        rw [List.foldl_map]
      rw [hfold] at ht ok'
      have hfew2 : ((nbr fl pins here).foldl (add1 dep) fd).length ≤ 1024 := by
        have h1 := plans_few (n := fl.rs.length) (l := ((nbr fl pins here).foldl (add1 dep) fd).map (·.1)) ok'.nd fun x hx => by
          obtain ⟨y, hy, rfl⟩ := List.mem_map.mp hx
          exact ok'.ok y hy
        rw [List.length_map] at h1
        exact Nat.le_trans h1 (two10 h10)
      rw [hfold]
      refine ⟨_, rfl, .inl ⟨_, rfl, _, rfl, iff' (by rw [List.length_map]; omega) ?_⟩⟩
      refine ⟨_, rfl, _, rfl, lt_ok, _, by omega, _, i + 1, _, _, _, rfl, ?_, ok', run, rfl⟩
      rw [ht, List.length_append]; omega
  · have hge : i = fd.length := by
      have h : ¬ i < fd.length := by simpa using h
      omega
    have hfin : fd = bfs 2000 (nbr fl pins) p := by
      rw [← run]
      have e1 : 2000 - i = (2000 - (i + 1)) + 1 := by omega
      rw [e1, bfsRun, List.getElem?_eq_none (by omega)]
    rw [← hfin] at q
    exact ⟨_, _, rfl, q⟩
end
end SH
end P5
section P6
set_option Elab.async false
set_option linter.all false
set_option maxRecDepth 100000
set_option maxHeartbeats 4000000
/-! P6: class_of, fewest_edits, differences, rows_of -/
namespace SH
open PySem PySem.Spec PyProof.Rows L2 DL SM
theorem srt_P (l : List (List Nat)) : SrtOk (l.map eP) := srt_tups okP (by decide) (alike_T fun a b => alike_int _ _) (fun a => ⟨_, rfl⟩) l
theorem keys_P (fd : List (List Nat × Nat)) : keysD (dictP fd) = (fd.map (·.1)).map eP := by
  unfold keysD
  rw [List.map_map, List.map_map]
  exact List.map_congr_left fun x _ => ((okkP.key x.1).nk.back).1
abbrev Dif := Lease × (List Str × Str)
abbrev eDif : Dif → PyData := e2 eLs eEdge
theorem okDif : Okd eDif 4 := okd_2 okLs okEdge
theorem srt_Dif (l : List Dif) : SrtOk (l.map eDif) := srt_tups okDif (by decide) (alike_2 (alike_2 alike_str fun a b => alike_int _ _) (alike_2 (alike_T alike_str) alike_str)) (fun a => ⟨_, rfl⟩) l
theorem okkDif : Okk eDif := okk okDif (by decide) (fun _ => ⟨_, rfl⟩) (nk_2 (nk_2 nk_str fun _ => nk_int _) (nk_2 (nk_T nk_str) nk_str))
def rawDif (names rs : List Str) (ls : List Lease) (p q : List Nat) : List Dif := ls.flatMap fun l => (eds rs p q l.2 l.1).map fun e => (l, e)
noncomputable def difs (f : Flt) (p q : List Nat) : List Dif := srtE eDif (rawDif f.names f.rs (lsOf f.names f.rs) p q)
def leaseIn (rs : List Str) (s : Str) (k : Nat) : Lease := (s, (((rsOf rs s).filter fun i => decide (i < k)).getLast?.map (· + 1)).getD 0)
/-- a row: the way at stretch k, each edge with its lease -/
def rowAt (rs : List Str) (p q : List Nat) (k : Nat) : List Dif := (way (vx rs p k) (vx rs q k)).map fun e => (leaseIn rs e.2 k, e)
section
variable {P : Program} {w : World} {K : PySem.W.Frag} {mg : Str → Option Value} {base : Heap}
abbrev Fclass_of : Pr := fun ds R => ∃ (f : Flt) (pins : List Lease) (p : List Nat), ds = [.d (eFl f), .d (ePins pins), .d (eP p)] ∧ FlOk f ∧ f.rs.length ≤ 10 ∧ PlanOk f.rs.length p ∧ R (.d (eT eP (srtE eP ((bfs 2000 (nbr f pins) p).map (·.1)))))
theorem lenclass_of : ∀ ds R, Fclass_of ds R → ds.length = 3 := by
  rintro ds R ⟨f, pins, p, rfl, _⟩; rfl
/-! class_of: slots 0 fleet, 1 pins, 2 plan -/
abbrev nmclass_of : List Str := ["fleet", "pins", "plan"]
theorem scclass_of : FnScope nmclass_of ["fleet", "pins", "plan"] (defScope (topS 47)) := ⟨rfl, rfl, rfl, by decide +kernel, rfl, by decide +kernel, by decide +kernel⟩
theorem okclass_of {f : Addr} {fd : FuncData} {k : Nat} (F : Fun K "class_of" "class_of" (topS 47) f fd) (gx : mg "class_of" = some (.ref f)) (b : Binds K fd ["fleet", "pins", "plan"] []) (M : Blt mg) (Cedits_from : Cal P w K mg base k "edits_from" 3 Fedits_from) :
    Cal P w K mg base (k + 1) "class_of" 3 Fclass_of := by
  refine cal_of F gx b scclass_of rfl lenclass_of fun cdv A outer s H E hr => ⟨_, (dss_one (ds_ret (de_tupc rfl rfl M.tuple (da_cons (de_sortedD hr rfl rfl rfl M.sorted (da_cons (de_fn Cedits_from hr (Nat.le_refl _) rfl (da_cons (de_var 0) (da_cons (de_var 1) (da_cons (de_var 2) da_nil)))) da_nil)) da_nil)))), ?_⟩
  rintro ds R ⟨fl, pins, p, rfl, hf, h10, hp, q⟩
  refine ⟨_, rfl, fl, pins, p, rfl, hf, h10, hp, _, _, rfl, rfl, ?_⟩
  rw [keys_P, srtE_map]
  exact ⟨srt_P _, _, _, rfl, q⟩
abbrev Ffewest_edits : Pr := fun ds R => ∃ (f : Flt) (pins : List Lease) (p q : List Nat), ds = [.d (eFl f), .d (ePins pins), .d (eP p), .d (eP q)] ∧ FlOk f ∧ f.rs.length ≤ 10 ∧ PlanOk f.rs.length p ∧ R (.d ((kAt (dictP (bfs 2000 (nbr f pins) p)) (nkOf (eP q))).getD .none))
theorem lenfewest_edits : ∀ ds R, Ffewest_edits ds R → ds.length = 4 := by
  rintro ds R ⟨f, pins, p, q, rfl, _⟩; rfl
/-! fewest_edits: slots 0 fleet, 1 pins, 2 one, 3 other -/
abbrev nmfewest_edits : List Str := ["fleet", "pins", "one", "other"]
theorem scfewest_edits : FnScope nmfewest_edits ["fleet", "pins", "one", "other"] (defScope (topS 48)) := ⟨rfl, rfl, rfl, by decide +kernel, rfl, by decide +kernel, by decide +kernel⟩
theorem okfewest_edits {f : Addr} {fd : FuncData} {k : Nat} (F : Fun K "fewest_edits" "fewest_edits" (topS 48) f fd) (gx : mg "fewest_edits" = some (.ref f)) (b : Binds K fd ["fleet", "pins", "one", "other"] []) (M : Blt mg) (Cedits_from : Cal P w K mg base k "edits_from" 3 Fedits_from) :
    Cal P w K mg base (k + 1) "fewest_edits" 4 Ffewest_edits := by
  refine cal_of F gx b scfewest_edits rfl lenfewest_edits fun cdv A outer s H E hr => ⟨_, (dss_one (ds_ret (de_getD hr.hu rfl (de_fn Cedits_from hr (Nat.le_refl _) rfl (da_cons (de_var 0) (da_cons (de_var 1) (da_cons (de_var 2) da_nil)))) (da_cons (de_var 3) da_nil)))), ?_⟩
  rintro ds R ⟨fl, pins, p, q, rfl, hf, h10, hp, h⟩
  exact ⟨_, rfl, fl, pins, p, rfl, hf, h10, hp, _, rfl, _, rfl, okkP.key q, _, _, rfl, h⟩
abbrev Fdifferences : Pr := fun ds R => ∃ (f : Flt) (p q : List Nat), ds = [.d (eFl f), .d (eP p), .d (eP q)] ∧ FlOk f ∧ R (.d (eT eDif (difs f p q)))
theorem lendifferences : ∀ ds R, Fdifferences ds R → ds.length = 3 := by
  rintro ds R ⟨f, p, q, rfl, _⟩; rfl
/-! differences: slots 0 fleet, 1 one, 2 other, 3 lease, 4 first, 5 second, 6 found, 7 edges, 8 edge -/
abbrev nmdifferences : List Str := ["fleet", "one", "other", "lease", "first", "second", "found", "edges", "edge"]
theorem scdifferences : FnScope nmdifferences ["fleet", "one", "other"] (defScope (topS 34)) := ⟨rfl, rfl, rfl, by decide +kernel, rfl, by decide +kernel, by decide +kernel⟩
theorem okdifferences {f : Addr} {fd : FuncData} {k : Nat} (F : Fun K "differences" "differences" (topS 34) f fd) (gx : mg "differences" = some (.ref f)) (b : Binds K fd ["fleet", "one", "other"] []) (M : Blt mg) (Cedges_with : Cal P w K mg base k "edges_with" 2 Fedges_with) (Cleases_of : Cal P w K mg base k "leases_of" 1 Fleases_of) (Cvertices_of : Cal P w K mg base k "vertices_of" 2 Fvertices_of) (Cway : Cal P w K mg base k "way" 2 Fway) :
    Cal P w K mg base (k + 1) "differences" 3 Fdifferences := by
  refine cal_of F gx b scdifferences rfl lendifferences fun cdv A outer s H E hr => ⟨_, (dss_cons (ds_par3 (i := 4) (j := 5) (l := 6) rfl scdifferences.nd rfl rfl rfl (by decide) (by decide) (by decide) rfl rfl rfl (da_cons (de_fn Cvertices_of hr (Nat.le_refl _) rfl (da_cons (de_var 0) (da_cons (de_var 1) da_nil))) (da_cons (de_fn Cvertices_of hr (Nat.le_refl _) rfl (da_cons (de_var 0) (da_cons (de_var 2) da_nil))) (da_cons (de_lst da_nil) da_nil))) (by rfl)) (dss_cons (ds_for PassesOwn.never rfl (di_tup (de_fn Cleases_of hr (Nat.le_refl _) rfl (da_cons (de_var 0) da_nil))) (dg_name (i := 3) scdifferences.nd rfl (.inr rfl)) (dss_cons (ds_set (i := 7) scdifferences.nd rfl (.inl rfl) (de_fn Cedges_with hr (Nat.le_refl _) rfl (da_cons (de_fn Cway hr (Nat.le_refl _) rfl (da_cons (de_ix (de_var 4) (de_ix (de_var 3) de_int)) (da_cons (de_ix (de_var 5) (de_ix (de_var 3) de_int)) da_nil))) (da_cons (de_ix (de_var 3) de_int) da_nil)))) (dss_one (ds_expr (de_extend rfl (de_var 6) (da_cons (de_lc rfl scdifferences.nd (di_tup (de_var 7)) (blkOk_by (own := [("edge", 8)]) (N := nmdifferences) (sc := defScope (topS 34)) (by decide +kernel)) (fun _ _ _ _ _ => (dg_name (i := 8) scdifferences.nd rfl (.inl rfl))) (fun _ _ _ _ _ => dts_nil) (fun _ _ _ _ _ => (de_tup (da_cons (de_var 3) (da_cons (de_var 8) da_nil))))) da_nil)))))) (dss_one (ds_ret (de_tupc rfl rfl M.tuple (da_cons (de_sorted hr rfl rfl M.sorted (da_cons (de_var 6) da_nil)) da_nil)))))), ?_⟩
  rintro ds R ⟨fl, p, q, rfl, hf, hq⟩
  have hr := hf.rlen
  refine ⟨_, rfl, fl, p, rfl, hf, _, rfl, fl, q, rfl, hf, _, rfl, le_ok, _, rfl, _, rfl, fl, rfl, hf, _, rfl, ?_⟩
  refine for_inv (fun i ρ => ∃ c d l, l = (rawDif fl.names fl.rs ((lsOf fl.names fl.rs).take i) p q).map eDif ∧ l.length ≤ i * 200 ∧ ρ = [some (.dat (.d (eFl fl))), some (.dat (.d (eP p))), some (.dat (.d (eP q))), c, some (.dat (.d (eT eW ((List.range (fl.rs.length + 1)).map (vx fl.rs p))))), some (.dat (.d (eT eW ((List.range (fl.rs.length + 1)).map (vx fl.rs q))))), some (.lst l), d, none]) ⟨_, _, [], rfl, Nat.le_refl _, rfl⟩ ?_ ?_
  · rintro i ⟨x, b⟩ ρ hi ⟨c, d, L, hL, hlen, rfl⟩ nx hn
    have hmem : (x, b) ∈ lsOf fl.names fl.rs := List.mem_of_getElem? hi
    have hb : b ≤ fl.rs.length := (ls_ok hmem hf).le
    have t1 := vx_len fl.rs p b
    have t2 := vx_len fl.rs q b
    have b1 : b ≤ 1000 := by omega
    have htk : (lsOf fl.names fl.rs).take (i + 1) = (lsOf fl.names fl.rs).take i ++ [(x, b)] := by rw [List.take_succ, hi]; rfl
    have hlen2 : i < (lsOf fl.names fl.rs).length := (List.getElem?_eq_some_iff.mp hi).1
    rw [ls_len] at hlen2
    have hn1 := hf.nlen
    have he : (eds fl.rs p q b x).length ≤ 200 := by
      have h1 := List.length_filter_le (fun e : List Str × Str => decide (e.2 = x)) (way (vx fl.rs p b) (vx fl.rs q b))
      have h2 := way_len (vx fl.rs p b) (vx fl.rs q b)
      unfold eds
      omega
    refine ⟨lt_ok, _, rfl, _, vx_at fl.rs p hb, _, rfl, _, vx_at fl.rs q hb, _, rfl, _, _, rfl, Nat.le_trans t1 b1, Nat.le_trans t2 b1, _, rfl, _, rfl, _, x, rfl, _, rfl, lt_ok, ?_⟩
    refine ⟨_, _, rfl, _, rfl, free_ok, ?_⟩
    refine lc_Nm (enc := eEdge) (encB := eDif) (fun e => ((x, b), e)) lt_ok rfl (fun e _ K h => ⟨_, rfl, le_ok, h⟩) ?_
    have hlen3 : (((eds fl.rs p q b x).map fun e => ((x, b), e)).map eDif).length = (eds fl.rs p q b x).length := by rw [List.length_map, List.length_map]
    refine ⟨_, rfl, _, rfl, ?_, hn _ ⟨some (.dat (.d (eLs (x, b)))), some (.dat (.d (eWay (eds fl.rs p q b x)))), L ++ ((eds fl.rs p q b x).map fun e => ((x, b), e)).map eDif, ?_, ?_, rfl⟩⟩
    · rw [show (((way (vx fl.rs p b) (vx fl.rs q b)).filter fun e => decide (e.2 = x)).map fun e => ((x, b), e)) = (eds fl.rs p q b x).map fun e => ((x, b), e) from rfl, hlen3]
      exact Nat.le_trans (m := 1000000) (by omega) (by decide)
    · rw [hL, htk]
      unfold rawDif
      rw [List.flatMap_append, List.map_append]
      simp
    · rw [List.length_append, hlen3]; omega
  · rintro ρ ⟨c, d, L, hL, hlen, rfl⟩
    rw [List.take_length] at hL
    subst hL
    refine ⟨srt_Dif _, _, _, rfl, ?_⟩
    rw [srtE_map]
    exact hq
abbrev Frows_of : Pr := fun ds R => ∃ (f : Flt) (p q : List Nat), ds = [.d (eFl f), .d (eP p), .d (eP q)] ∧ FlOk f ∧ R (.d (eL (eL eDif) ((List.range (f.rs.length + 1)).map (rowAt f.rs p q))))
theorem lenrows_of : ∀ ds R, Frows_of ds R → ds.length = 3 := by
  rintro ds R ⟨f, p, q, rfl, _⟩; rfl
/-! rows_of: slots 0 fleet, 1 one, 2 other, 3 stretch, 4 first, 5 second, 6 found, 7 edges, 8 edge -/
abbrev nmrows_of : List Str := ["fleet", "one", "other", "stretch", "first", "second", "found", "edges", "edge"]
theorem scrows_of : FnScope nmrows_of ["fleet", "one", "other"] (defScope (topS 36)) := ⟨rfl, rfl, rfl, by decide +kernel, rfl, by decide +kernel, by decide +kernel⟩
theorem okrows_of {f : Addr} {fd : FuncData} {k : Nat} (F : Fun K "rows_of" "rows_of" (topS 36) f fd) (gx : mg "rows_of" = some (.ref f)) (b : Binds K fd ["fleet", "one", "other"] []) (M : Blt mg) (Clease_in : Cal P w K mg base k "lease_in" 3 Flease_in) (Csize : Cal P w K mg base k "size" 1 Fsize) (Cvertices_of : Cal P w K mg base k "vertices_of" 2 Fvertices_of) (Cway : Cal P w K mg base k "way" 2 Fway) :
    Cal P w K mg base (k + 1) "rows_of" 3 Frows_of := by
  refine cal_of F gx b scrows_of rfl lenrows_of fun cdv A outer s H E hr => ⟨_, (dss_cons (ds_par3 (i := 4) (j := 5) (l := 6) rfl scrows_of.nd rfl rfl rfl (by decide) (by decide) (by decide) rfl rfl rfl (da_cons (de_fn Cvertices_of hr (Nat.le_refl _) rfl (da_cons (de_var 0) (da_cons (de_var 1) da_nil))) (da_cons (de_fn Cvertices_of hr (Nat.le_refl _) rfl (da_cons (de_var 0) (da_cons (de_var 2) da_nil))) (da_cons (de_lst da_nil) da_nil))) (by rfl)) (dss_cons (ds_for PassesOwn.never rfl (di_range1 rfl rfl M.range (da_cons (de_op od_add (de_fn Csize hr (Nat.le_refl _) rfl (da_cons (de_var 0) da_nil)) de_int) da_nil)) (dg_name (i := 3) scrows_of.nd rfl (.inr rfl)) (dss_cons (ds_set (i := 7) scrows_of.nd rfl (.inl rfl) (de_fn Cway hr (Nat.le_refl _) rfl (da_cons (de_ix (de_var 4) (de_var 3)) (da_cons (de_ix (de_var 5) (de_var 3)) da_nil)))) (dss_one (ds_expr (de_append rfl (de_var 6) (da_cons (de_frz (de_lc rfl scrows_of.nd (di_tup (de_var 7)) (blkOk_by (own := [("edge", 8)]) (N := nmrows_of) (sc := defScope (topS 36)) (by decide +kernel)) (fun _ _ _ _ _ => (dg_name (i := 8) scrows_of.nd rfl (.inl rfl))) (fun _ _ _ _ _ => dts_nil) (fun _ _ _ _ _ => (de_tup (da_cons (de_fn Clease_in hr (Nat.le_refl _) rfl (da_cons (de_var 0) (da_cons (de_ix (de_var 8) de_int) (da_cons (de_var 3) da_nil)))) (da_cons (de_var 8) da_nil)))))) da_nil)))))) (dss_one (ds_ret (de_var 6))))), ?_⟩
  rintro ds R ⟨fl, p, q, rfl, hf, hq⟩
  have hr := hf.rlen
  refine ⟨_, rfl, fl, p, rfl, hf, _, rfl, fl, q, rfl, hf, _, rfl, le_ok, _, rfl, ?_⟩
  refine ⟨_, rfl, fl, rfl, _, rfl, by omega, by omega, ?_⟩
  have e0 : ((fl.rs.length : Int) + 1).toNat = fl.rs.length + 1 := by omega
  rw [e0]
  have e1 : rgFrom 0 (fl.rs.length + 1) = (List.range (fl.rs.length + 1)).map eN := by
    unfold rgFrom
    refine List.map_congr_left fun i _ => ?_
    rw [Int.zero_add]
  rw [e1]
  refine for_inv (fun i ρ => ∃ c d l, l = ((List.range i).map (rowAt fl.rs p q)).map (eL eDif) ∧ ρ = [some (.dat (.d (eFl fl))), some (.dat (.d (eP p))), some (.dat (.d (eP q))), c, some (.dat (.d (eT eW ((List.range (fl.rs.length + 1)).map (vx fl.rs p))))), some (.dat (.d (eT eW ((List.range (fl.rs.length + 1)).map (vx fl.rs q))))), some (.lst l), d, none]) ⟨_, _, [], rfl, rfl⟩ ?_ ?_
  · rintro i k ρ hi ⟨c, d, L, hL, rfl⟩ nx hn
    have hi1 := (List.getElem?_eq_some_iff.mp hi).1
    rw [List.length_range] at hi1
    rw [List.getElem?_range hi1] at hi
    cases hi
    have t1 := vx_len fl.rs p i
    have t2 := vx_len fl.rs q i
    refine ⟨lt_ok, _, vx_at fl.rs p (by omega), _, vx_at fl.rs q (by omega), _, rfl, _, _, rfl, by omega, by omega, _, rfl, lt_ok, _, _, rfl, _, rfl, free_ok, ?_⟩
    refine lc_Nm (enc := eEdge) (encB := eDif) (fun e => (leaseIn fl.rs e.2 i, e)) lt_ok rfl (fun e _ K h => ⟨_, rfl, _, rfl, fl, e.2, i, rfl, hr, _, rfl, le_ok, h⟩) ?_
    refine ⟨_, rfl, _, rfl, _, rfl, ?_, hn _ ⟨some (.dat (.d (eN i))), some (.dat (.d (eWay (way (vx fl.rs p i) (vx fl.rs q i))))), L ++ [eL eDif (rowAt fl.rs p q i)], ?_, rfl⟩⟩
    · rw [hL, List.length_map, List.length_map, List.length_range]
      exact Nat.lt_of_le_of_lt (m := 1000) (by omega) (by decide)
    · rw [hL, List.range_succ, List.map_append, List.map_append]; rfl
  · rintro ρ ⟨c, d, L, hL, rfl⟩
    rw [List.length_range] at hL
    subst hL
    exact ⟨_, _, rfl, hq⟩
end
end SH
end P6
section P7
set_option Elab.async false
set_option linter.all false
set_option maxRecDepth 100000
set_option maxHeartbeats 1000000
/-! P7: steps_ahead, turned_about -/
namespace DL
open PySem PySem.Spec PyProof.Rows L2
section
variable {X : Cx} {kx tg iter : Expr} {scope : Scope} {own : List (Str × Nat)} {pos p2 : Pos} {W : Wt} {i0 j : Nat}
theorem psn_new {y : Str} {py spos : Pos} (hu : X.A.units + 64 < cLine) (hc : X.calm = true) (hN : X.N.Nodup) (hy : X.N[i0]? = some y) (hyl : X.env.scope.names.lookup y = some .local)
    (hsw : swapsWith (.DictComp kx (.Dict [] [] p2) [⟨tg, iter, [], 0⟩] scope pos) (some (.Name y py)) spos.line X.env = pure true) (hi : DI X tg iter W) (ok : BlkOk X.N X.env.scope scope own)
    (hg : ∀ (s : Shared) (H : Hp) (C : Addr) (cl : List (Str × Addr)) (fp : List Addr), DG (X.blk s H scope (compEnvC scope cl C X.env) fp) tg [j] (gN j))
    (hk : ∀ (s : Shared) (H : Hp) (C : Addr) (cl : List (Str × Addr)) (fp : List Addr), DE (X.blk s H scope (compEnvC scope cl C X.env) fp) kx (eVar j))
    (ho : own.map (·.2) = [j]) (hs : ∀ x, foldedSetIterable iter X.env x = pure x := by intro _; rfl) :
    PS X (.Assign [.Name y py] (.DictComp kx (.Dict [] [] p2) [⟨tg, iter, [], 0⟩] scope pos) spos) (tNest X.prog X.w i0 j W) := by
  refine PS.imp (ps_setDc (g := rdG X.prog X.w [j] (gN j)) (tk := rdE X.prog X.w (eVar j)) (tv := tNewV X.prog X.w) hu hc hN hy hyl hsw hi ok hg hk (fun s H C cl fp => pe_newV (X := X.blk s H scope (compEnvC scope cl C X.env) fp)) hs) fun D σ H h => ?_
  rw [ho]
  exact nest_d h
end
end DL
namespace SH
open PySem PySem.Spec PyProof.Rows L2 DL SM
abbrev nk (d : Dif) : NestedKey := nkOf (eDif d)
theorem nk_inj {a b : Dif} (h : nk a = nk b) : a = b := okkDif.inj h
/-- a dict of dicts: keys ds, under d the keys pr d -/
abbrev encN (ds : List Dif) (pr : Dif → List Dif) : Nst := ds.map fun d => (nk d, (pr d).map nk)
def addP (pr : Dif → List Dif) (y x : Dif) : Dif → List Dif := fun d => if d = y then (if x ∈ pr y then pr y else pr y ++ [x]) else pr d
theorem encN_at {ds : List Dif} {pr : Dif → List Dif} {y : Dif} (h : y ∈ ds) : kAt (encN ds pr) (nk y) = some ((pr y).map nk) := by
  induction ds with
  | nil => cases h
  | cons d ds ih =>
    show kAt ((nk d, (pr d).map nk) :: encN ds pr) (nk y) = _
    rw [kAt_cons]
    by_cases e : d = y
    · rw [if_pos (by rw [e]), e]
    · rw [if_neg fun z => e (nk_inj z)]
      exact ih ((List.mem_cons.mp h).resolve_left fun z => e z.symm)
theorem insK_map (l : List Dif) (x : Dif) : insK (l.map nk) (nk x) = (if x ∈ l then l else l ++ [x]).map nk := by
  unfold insK
  have e : nk x ∈ l.map nk ↔ x ∈ l := ⟨fun m => by obtain ⟨z, hz, e⟩ := List.mem_map.mp m; rw [← nk_inj e]; exact hz, fun m => List.mem_map.mpr ⟨x, m, rfl⟩⟩
  by_cases h : x ∈ l
  · rw [if_pos (e.mpr h), if_pos h]
  · rw [if_neg fun m => h (e.mp m), if_neg h, List.map_append]; rfl
theorem encN_put {ds : List Dif} {pr : Dif → List Dif} {y x : Dif} (h : y ∈ ds) : kPut (encN ds pr) (nk y) (insK ((pr y).map nk) (nk x)) = encN ds (addP pr y x) := by
  unfold kPut
  rw [if_pos (by rw [encN_at h]; rfl), insK_map]
  show (ds.map _).map _ = ds.map _
  rw [List.map_map]
  refine List.map_congr_left fun d _ => ?_
  show (if nk d = nk y then (nk d, _) else (nk d, (pr d).map nk)) = (nk d, (addP pr y x d).map nk)
  unfold addP
  by_cases e : d = y
  · rw [if_pos (by rw [e]), if_pos e]
  · rw [if_neg fun z => e (nk_inj z), if_neg e]
theorem encN_keys (ds : List Dif) : (ds.map fun d => (nk d, ([] : List NestedKey))) = encN ds fun _ => [] := rfl
/-- x comes directly ahead of y in a row -/
def Adj (rows : List (List Dif)) (x y : Dif) : Prop := ∃ r ∈ rows, ∃ i : Nat, r[i]? = some x ∧ r[i + 1]? = some y
theorem addP_nd {pr : Dif → List Dif} {y x : Dif} (h : ∀ d, (pr d).Nodup) : ∀ d, (addP pr y x d).Nodup := fun d => by
  unfold addP
  split
  · split
    · exact h y
    · rename_i hx
      exact List.nodup_append.mpr ⟨h y, by simp, fun a ha b hb e => hx (by rw [List.mem_singleton.mp hb] at e; rw [← e]; exact ha)⟩
  · exact h d
theorem addP_mem {pr : Dif → List Dif} {y x d z : Dif} : z ∈ addP pr y x d ↔ z ∈ pr d ∨ (d = y ∧ z = x) := by
  unfold addP
  by_cases e : d = y
  · subst e
    rw [if_pos rfl]
    split
    · rename_i hx
      exact ⟨.inl, fun h => h.elim id fun h => by rw [h.2]; exact hx⟩
    · rw [List.mem_append, List.mem_singleton]
      exact ⟨fun h => h.imp id fun h => ⟨rfl, h⟩, fun h => h.imp id fun h => h.2⟩
  · rw [if_neg e]
    exact ⟨.inl, fun h => h.elim id fun h => absurd h.1 e⟩
theorem nodup_len {α : Type} [DecidableEq α] {l m : List α} (h : l.Nodup) (s : ∀ x ∈ l, x ∈ m) : l.length ≤ m.length := nodup_sub h s
theorem forN_fold {α β : Type} {enc : α → PyData} {i0 : Nat} {G : Gt} {S : SttN} (st : β → Sv → Nst → Prop) (f : β → α → β) {R : Sv → Nst → Prop} : ∀ (xs : List α) (b : β) (ρ : Sv) (γ : Nst), st b ρ γ →
    (∀ x ∈ xs, ∀ b ρ γ, st b ρ γ → ∀ nx : Sv → Nst → Prop, (∀ ρ' γ', st (f b x) ρ' γ' → nx ρ' γ') → G (enc x) ρ fun ρ1 => NoOwn ρ1 ∧ ρ1[i0]? = some none ∧ S ρ1 γ nx) → (∀ ρ γ, st (xs.foldl f b) ρ γ → R ρ γ) → forN i0 G S (xs.map enc) ρ γ R
  | [], b, ρ, γ, h, _, hd => hd ρ γ h
  | x :: xs, b, ρ, γ, h, hs, hd => hs x List.mem_cons_self b ρ γ h _ fun ρ' γ' h' => forN_fold st f xs (f b x) ρ' γ' h' (fun y hy => hs y (List.mem_cons_of_mem _ hy)) hd
/-- a slot with data or nothing -/
def oD : Option Dt → Option Cell
  | some d => some (.dat d)
  | none => none
def noB : Sv → Bool
  | [] => true
  | some (.lst _) :: _ => false
  | some (.dct _) :: _ => false
  | _ :: ρ => noB ρ
theorem no_of' : ∀ {ρ : Sv}, (∀ c ∈ ρ, ∀ x, c = some x → x.own = false) → NoOwn ρ := fun {ρ} h i c e => h _ (List.mem_of_getElem? e) c rfl
theorem oD_no (d : Option Dt) : ∀ x, oD d = some x → x.own = false := fun x e => by
  cases d with
  | none => cases e
  | some d => cases e; rfl
theorem no_of {ρ : Sv} {l : List (Option Dt)} (e : ρ = l.map oD) : NoOwn ρ := no_of' fun c hc => by
  rw [e] at hc
  obtain ⟨d, _, rfl⟩ := List.mem_map.mp hc
  exact oD_no d
def addB (b : (Dif → List Dif) × List (Dif × Dif)) (p : Dif × Dif) : (Dif → List Dif) × List (Dif × Dif) := (addP b.1 p.2 p.1, b.2 ++ [p])
structure BOk (ds : List Dif) (b : (Dif → List Dif) × List (Dif × Dif)) : Prop where
  nd : ∀ d, (b.1 d).Nodup
  mem : ∀ x y, x ∈ b.1 y ↔ (x, y) ∈ b.2
  sub : ∀ y x, x ∈ b.1 y → x ∈ ds
theorem bok_nil (ds : List Dif) : BOk ds (fun _ => [], []) := ⟨fun _ => by simp, fun x y => by simp, fun y x h => by simp at h⟩
theorem BOk.add {ds : List Dif} {b : (Dif → List Dif) × List (Dif × Dif)} (h : BOk ds b) {x y : Dif} (hx : x ∈ ds) : BOk ds (addB b (x, y)) where
  nd := addP_nd h.nd
  mem := fun z d => by
    show z ∈ addP b.1 y x d ↔ (z, d) ∈ b.2 ++ [(x, y)]
    rw [addP_mem, h.mem, List.mem_append, List.mem_singleton]
    exact or_congr_right ⟨fun q => by rw [q.1, q.2], fun q => by injection q with q1 q2; exact ⟨q2, q1⟩⟩
  sub := fun d z hz => by
    rcases addP_mem.mp hz with h1 | ⟨_, rfl⟩
    · exact h.sub d z h1
    · exact hx
theorem addB_snd (l : List (Dif × Dif)) : ∀ b, (l.foldl addB b).2 = b.2 ++ l := by
  induction l with
  | nil => intro b; simp
  | cons p l ih => intro b; rw [List.foldl_cons, ih]; simp [addB]
theorem addB_all (rows : List (List Dif)) : ∀ b : (Dif → List Dif) × List (Dif × Dif), (rows.foldl (fun b r => (r.zip (r.drop 1)).foldl addB b) (fun _ => [], [])).2 = rows.flatMap fun r => r.zip (r.drop 1) := by
  intro _
  have key : ∀ (rows : List (List Dif)) (b : (Dif → List Dif) × List (Dif × Dif)), (rows.foldl (fun b r => (r.zip (r.drop 1)).foldl addB b) b).2 = b.2 ++ rows.flatMap fun r => r.zip (r.drop 1) := by
    intro rows
    induction rows with
    | nil => intro b; simp
    | cons r rows ih => intro b; rw [List.foldl_cons, ih, addB_snd, List.flatMap_cons, List.append_assoc]
  rw [key]; simp
theorem zips_adj (rows : List (List Dif)) (x y : Dif) : (x, y) ∈ (rows.flatMap fun r => r.zip (r.drop 1)) ↔ Adj rows x y := by
  rw [List.mem_flatMap]
  refine ⟨fun ⟨r, hr, h⟩ => ⟨r, hr, ?_⟩, fun ⟨r, hr, i, h1, h2⟩ => ⟨r, hr, ?_⟩⟩
  · obtain ⟨i, hi⟩ := List.mem_iff_getElem?.mp h
    rw [List.getElem?_zip_eq_some] at hi
    refine ⟨i, hi.1, ?_⟩
    have := hi.2
    rw [List.getElem?_drop] at this
    rw [Nat.add_comm]; exact this
  · refine List.mem_iff_getElem?.mpr ⟨i, ?_⟩
    rw [List.getElem?_zip_eq_some, List.getElem?_drop, Nat.add_comm]
    exact ⟨h1, h2⟩
section
variable {P : Program} {w : World} {K : PySem.W.Frag} {mg : Str → Option Value} {base : Heap}
abbrev Fsteps_ahead : Pr := fun ds R => ∃ (f : Flt) (p q : List Nat), ds = [.d (eFl f), .d (eP p), .d (eP q)] ∧ FlOk f ∧ (difs f p q).Nodup ∧ (difs f p q).length < 1000 ∧ (∀ k, k ≤ f.rs.length → ∀ d ∈ rowAt f.rs p q k, d ∈ difs f p q) ∧
  ∀ pr, (∀ d, (pr d).Nodup) → (∀ x y, x ∈ pr y ↔ Adj ((List.range (f.rs.length + 1)).map (rowAt f.rs p q)) x y) → R (.kk (encN (difs f p q) pr))
theorem lensteps_ahead : ∀ ds R, Fsteps_ahead ds R → ds.length = 3 := by
  rintro ds R ⟨f, p, q, rfl, _⟩; rfl
abbrev nmsteps_ahead : List Str := ["fleet", "one", "other", "found", "row", "difference", "first", "second"]
theorem scsteps_ahead : FnScope nmsteps_ahead ["fleet", "one", "other"] (defScope (topS 37)) := ⟨rfl, rfl, rfl, by decide +kernel, rfl, by decide +kernel, by decide +kernel⟩
theorem oksteps_ahead {f : Addr} {fd : FuncData} {k : Nat} (F : Fun K "steps_ahead" "steps_ahead" (topS 37) f fd) (gx : mg "steps_ahead" = some (.ref f)) (b : Binds K fd ["fleet", "one", "other"] []) (M : Blt mg)
    (Cdifferences : Cal P w K mg base k "differences" 3 Fdifferences) (Crows_of : Cal P w K mg base k "rows_of" 3 Frows_of) : Cal P w K mg base (k + 1) "steps_ahead" 3 Fsteps_ahead := by
  refine cal_raw F gx b scsteps_ahead rfl lensteps_ahead fun cdv A outer s H E hr => ⟨_, pss_cons (psn_new (i0 := 3) (j := 5) hr.hu rfl scsteps_ahead.nd rfl rfl (swd_true rfl rfl rfl (by decide +kernel)) (di_tup (de_fn Cdifferences hr (Nat.le_refl _) rfl (da_cons (de_var 0) (da_cons (de_var 1) (da_cons (de_var 2) da_nil)))))
      (blkOk_by (own := [("difference", 5)]) (N := nmsteps_ahead) (sc := defScope (topS 37)) (by decide +kernel)) (fun _ _ _ _ _ => (dg_name (i := 5) scsteps_ahead.nd rfl (.inl rfl))) (fun _ _ _ _ _ => de_var 5) rfl)
    (pss_cons (psn_for (i0 := 3) PassesOwn.never rfl (di_list (de_fn Crows_of hr (Nat.le_refl _) rfl (da_cons (de_var 0) (da_cons (de_var 1) (da_cons (de_var 2) da_nil))))) (dg_name (i := 4) scsteps_ahead.nd rfl (.inl rfl)) (by decide)
        (pss_one (psn_for (i0 := 3) PassesOwn.never rfl (di_zip rfl rfl M.zip (da_cons (de_var 4) (da_cons (de_frz (de_sl (de_var 4) (do_yes de_int) do_no)) da_nil))) (dg_pair (i := 6) (j := 7) rfl scsteps_ahead.nd rfl rfl (.inl rfl) (.inl rfl)) (by decide)
          (pss_one (psn_put (i0 := 3) (j1 := 7) (j2 := 6) hr.hu rfl rfl rfl (.inl rfl) (.inl rfl) (.inl rfl) (by decide) (by decide) (by decide) (by decide) (by decide) (by decide) rfl rfl rfl (fun _ => rfl) pe_bl)))))
      (pss_one (psn_ret (i0 := 3) rfl (.inl rfl)))), ?_⟩
  rintro ds R ⟨fl, p, q, rfl, hf, hnd, hlen, hrow, hR⟩ vs H Q rep hQ
  have hr := hf.rlen
  have hmap : (difs fl p q).map (fun d => nkOf (eDif d)) = ((difs fl p q).map eDif).map nkOf := by rw [List.map_map]; rfl
  refine ⟨_, fun l => l = (difs fl p q).map eDif, rep, startD_no _ _, lt_ok, lt_ok, rfl, ⟨_, rfl, fl, p, q, rfl, hf, _, rfl, rfl, ?_, ?_, ?_, rfl⟩, ?_⟩
  · intro d hd
    obtain ⟨x, _, rfl⟩ := List.mem_map.mp hd
    exact okkDif.key x
  · rw [List.map_map]
    exact (List.pairwise_map.mpr (hnd.imp fun {a b} h e => h (okkDif.inj e)))
  · rw [List.length_map]; exact hlen
  rintro l a A H2 rfl ng kt hfr rep2
  have ng : NG P w H2 a A (encN (difs fl p q) fun _ => []) := by
    rw [List.map_map] at ng
    exact ng
  let rows := (List.range (fl.rs.length + 1)).map (rowAt fl.rs p q)
  let st : (Dif → List Dif) × List (Dif × Dif) → Sv → Nst → Prop := fun b ρ γ => (∃ c d e, ρ = [some (.dat (.d (eFl fl))), some (.dat (.d (eP p))), some (.dat (.d (eP q))), none, oD c, none, oD d, oD e]) ∧ γ = encN (difs fl p q) b.1 ∧ BOk (difs fl p q) b
  let sl : Option Dt → Option Dt → Option Dt → List (Option Dt) := fun c d e => [some (.d (eFl fl)), some (.d (eP p)), some (.d (eP q)), none, c, none, d, e]
  refine ⟨a, A, _, _, fun ρ γ => ∃ b, st b ρ γ ∧ b.2 = rows.flatMap fun r => r.zip (r.drop 1), ⟨rep2, (startD_no _ _).del 3, rfl, ?_, ng⟩, ?_, ?_⟩
  · exact List.getElem?_set_self (by rw [rep.len]; exact lt_ok)
  · refine ⟨_, rfl, fl, p, q, rfl, hf, _, rfl, rfl, ?_⟩
    refine forN_fold (enc := eL eDif) st (fun b r => (r.zip (r.drop 1)).foldl addB b) rows (fun _ => [], []) _ _ ⟨⟨none, none, none, rfl⟩, rfl, bok_nil _⟩ ?_ fun ρ γ h => ⟨_, h, addB_all rows (fun _ => [], [])⟩
    rintro r hrr b ρ γ ⟨⟨c, d, e, rfl⟩, rfl, hb⟩ nx hn
    have hr5 : ∀ x ∈ r, x ∈ difs fl p q := by
      obtain ⟨kk, hk, rfl⟩ := List.mem_map.mp hrr
      exact hrow kk (by have := List.mem_range.mp hk; omega)
    refine ⟨lt_ok, no_of (l := sl (some (.d (eL eDif r))) d e) rfl, rfl, _, rfl, _, rfl, _, _, rfl, rfl, ?_⟩
    have ez : zipD (r.map eDif) (DL.cutD (r.map eDif) (some 1) none) = (r.zip (r.drop 1)).map fun p => .tuple [eDif p.1, eDif p.2] := by
      rw [show DL.cutD (r.map eDif) (some 1) none = (r.drop 1).map eDif from (cut_from _ 1).trans (List.map_drop ..).symm]
      unfold zipD
      rw [List.zip_map, List.map_map]
      rfl
    rw [ez]
    refine forN_fold (enc := fun p => .tuple [eDif p.1, eDif p.2]) st addB (r.zip (r.drop 1)) b _ _ ⟨⟨some (.d (eL eDif r)), d, e, rfl⟩, rfl, hb⟩ ?_ fun ρ γ h => hn ρ γ h
    rintro ⟨x, y⟩ hxy b ρ γ ⟨⟨c, d, e, rfl⟩, rfl, hb⟩ nx hn
    have hx : x ∈ difs fl p q := hr5 x (List.of_mem_zip hxy).1
    have hy : y ∈ difs fl p q := hr5 y (List.mem_of_mem_drop (List.of_mem_zip hxy).2)
    have hpl : (b.1 y).length < 1000 := Nat.lt_of_le_of_lt (nodup_len (hb.nd y) fun z hz => hb.sub y z hz) hlen
    refine ⟨_, _, rfl, lt_ok, lt_ok, no_of (l := sl c (some (.d (eDif x))) (some (.d (eDif y)))) rfl, rfl, _, _, _, rfl, rfl, okkDif.key y, okkDif.key x, encN_at hy, by rw [List.length_map]; exact hpl, hn _ _ ⟨⟨c, some (.d (eDif x)), some (.d (eDif y)), rfl⟩, encN_put hy, hb.add hx⟩⟩
  · rintro ρ' γ' σ' H' ⟨b, ⟨⟨c, d, e, rfl⟩, rfl, hb⟩, hdone⟩ ns kx
    refine ⟨a, A, _, _, ns, fun H3 k3 hv => hQ _ _ _ (hR b.1 hb.nd fun x y => ?_) (fun c o ec => ?_) (fun c ec => ?_) hv⟩
    · rw [hb.mem, hdone]
      exact zips_adj rows x y
    · have hc : ¬ (c = a ∨ c ∈ A) := fun m => by rw [hfr c m] at ec; cases ec
      exact k3.keep c o (kx.keep c o (kt.keep c o ec) hc) hc
    · exact kt.trk c (kx.trk c (k3.trk c ec))
theorem addT_snd (d : Dif) (l : List Dif) : ∀ b, (l.foldl (fun b x => addB b (d, x)) b).2 = b.2 ++ l.map fun x => (d, x) := by
  induction l with
  | nil => intro b; simp
  | cons p l ih => intro b; rw [List.foldl_cons, ih]; simp [addB]
theorem addT_all (pr : Dif → List Dif) (ds : List Dif) : ∀ b : (Dif → List Dif) × List (Dif × Dif), (ds.foldl (fun b d => (pr d).foldl (fun b x => addB b (d, x)) b) b).2 = b.2 ++ ds.flatMap fun d => (pr d).map fun x => (d, x) := by
  induction ds with
  | nil => intro b; simp
  | cons r rows ih => intro b; rw [List.foldl_cons, ih, addT_snd, List.flatMap_cons, List.append_assoc]
theorem dOf_nk (d : Dif) : dOf (nk d) = eDif d := (okkDif.key d).nk.back.1
theorem keys_N (ds : List Dif) (pr : Dif → List Dif) : ((encN ds pr).map fun x => dOf x.1) = ds.map eDif := by
  rw [List.map_map]
  exact List.map_congr_left fun d _ => dOf_nk d
theorem keys_T (l : List Dif) : keysD (trues (l.map nk)) = l.map eDif := by
  unfold keysD trues
  rw [List.map_map, List.map_map]
  exact List.map_congr_left fun d _ => dOf_nk d
abbrev Fturned_about : Pr := fun as R => ∃ (ds : List Dif) (pr : Dif → List Dif), as = [.kk (encN ds pr)] ∧ ds.Nodup ∧ ds.length < 1000 ∧ (∀ d ∈ ds, ∀ x ∈ pr d, x ∈ ds) ∧
  ∀ pr', (∀ d, (pr' d).Nodup) → (∀ x y, y ∈ pr' x ↔ y ∈ ds ∧ x ∈ pr y) → R (.kk (encN ds pr'))
theorem lenturned_about : ∀ ds R, Fturned_about ds R → ds.length = 1 := by
  rintro ds R ⟨f, p, rfl, _⟩; rfl
abbrev nmturned_about : List Str := ["ahead", "found", "second", "first", "difference"]
theorem scturned_about : FnScope nmturned_about ["ahead"] (defScope (topS 38)) := ⟨rfl, rfl, rfl, by decide +kernel, rfl, by decide +kernel, by decide +kernel⟩
theorem okturned_about {f : Addr} {fd : FuncData} {k : Nat} (F : Fun K "turned_about" "turned_about" (topS 38) f fd) (gx : mg "turned_about" = some (.ref f)) (b : Binds K fd ["ahead"] []) (M : Blt mg) : Cal P w K mg base (k + 1) "turned_about" 1 Fturned_about := by
  refine cal_raw F gx b scturned_about rfl lenturned_about fun cdv A outer s H E hr => ⟨_, pss_cons (psn_new (i0 := 1) (j := 4) hr.hu rfl scturned_about.nd rfl rfl (swd_true rfl rfl rfl (by decide +kernel)) (di_keys (de_var 0))
      (blkOk_by (own := [("difference", 4)]) (N := nmturned_about) (sc := defScope (topS 38)) (by decide +kernel)) (fun _ _ _ _ _ => (dg_name (i := 4) scturned_about.nd rfl (.inl rfl))) (fun _ _ _ _ _ => de_var 4) rfl)
    (pss_cons (psn_for (i0 := 1) PassesOwn.never rfl (di_keys (de_var 0)) (dg_name (i := 2) scturned_about.nd rfl (.inl rfl)) (by decide)
        (pss_one (psn_for (i0 := 1) PassesOwn.never rfl (di_keys (de_ixD hr.hu (de_var 0) (de_var 2))) (dg_name (i := 3) scturned_about.nd rfl (.inl rfl)) (by decide)
          (pss_one (psn_put (i0 := 1) (j1 := 3) (j2 := 2) hr.hu rfl rfl rfl (.inl rfl) (.inl rfl) (.inl rfl) (by decide) (by decide) (by decide) (by decide) (by decide) (by decide) rfl rfl rfl (fun _ => rfl) pe_bl)))))
      (pss_one (psn_ret (i0 := 1) rfl (.inl rfl)))), ?_⟩
  rintro as R ⟨ds, pr, rfl, hnd, hlen, hsub, hR⟩ vs H Q rep hQ
  have hkeys := keys_N ds pr
  refine ⟨_, fun l => l = ds.map eDif, rep, startD_no _ _, lt_ok, lt_ok, rfl, .inr ⟨_, rfl, rfl, ?_, ?_, ?_, hkeys⟩, ?_⟩
  · intro d hd
    rw [hkeys] at hd
    obtain ⟨x, _, rfl⟩ := List.mem_map.mp hd
    exact okkDif.key x
  · rw [hkeys, List.map_map]
    exact (List.pairwise_map.mpr (hnd.imp fun {a b} h e => h (okkDif.inj e)))
  · rw [hkeys, List.length_map]; exact hlen
  rintro l a A H2 rfl ng kt hfr rep2
  have ng : NG P w H2 a A (encN ds fun _ => []) := by
    rw [List.map_map] at ng
    exact ng
  let sl : Option Dt → Option Dt → List (Option Dt) := fun c d => [some (.kk (encN ds pr)), none, c, d, none]
  let st : (Dif → List Dif) × List (Dif × Dif) → Sv → Nst → Prop := fun b ρ γ => (∃ c d, ρ = [some (.dat (.kk (encN ds pr))), none, oD c, oD d, none]) ∧ γ = encN ds b.1 ∧ BOk ds b
  refine ⟨a, A, _, _, fun ρ γ => ∃ b, st b ρ γ ∧ b.2 = ds.flatMap fun d => (pr d).map fun x => (d, x), ⟨rep2, (startD_no _ _).del 1, rfl, ?_, ng⟩, ?_, ?_⟩
  · exact List.getElem?_set_self (by rw [rep.len]; exact lt_ok)
  · refine .inr ⟨_, rfl, rfl, ?_⟩
    rw [hkeys]
    refine forN_fold (enc := eDif) st (fun b d => (pr d).foldl (fun b x => addB b (d, x)) b) ds (fun _ => [], []) _ _ ⟨⟨none, none, rfl⟩, rfl, bok_nil _⟩ ?_ fun ρ γ h => ⟨_, h, by rw [addT_all]; rfl⟩
    rintro y hy b ρ γ ⟨⟨c, d, rfl⟩, rfl, hb⟩ nx hn
    refine ⟨lt_ok, no_of (l := sl (some (.d (eDif y))) d) rfl, rfl, _, rfl, okkDif.key y, .inr ⟨_, _, rfl, encN_at hy, .inl ⟨_, rfl, rfl, ?_⟩⟩⟩
    rw [keys_T]
    refine forN_fold (enc := eDif) (fun b ρ γ => (∃ d, ρ = [some (.dat (.kk (encN ds pr))), none, some (.dat (.d (eDif y))), oD d, none]) ∧ γ = encN ds b.1 ∧ BOk ds b) (fun b x => addB b (y, x)) (pr y) b _ _ ⟨⟨d, rfl⟩, rfl, hb⟩ ?_ fun ρ γ ⟨⟨d, h1⟩, h2⟩ => hn ρ γ ⟨⟨some (.d (eDif y)), d, h1⟩, h2⟩
    rintro x hx b ρ γ ⟨⟨d, rfl⟩, rfl, hb⟩ nx hn
    have hxd := hsub y hy x hx
    have hpl : (b.1 x).length < 1000 := Nat.lt_of_le_of_lt (nodup_len (hb.nd x) fun z hz => hb.sub x z hz) hlen
    exact ⟨lt_ok, no_of (l := sl (some (.d (eDif y))) (some (.d (eDif x)))) rfl, rfl, _, _, _, rfl, rfl, okkDif.key x, okkDif.key y, encN_at hxd, by rw [List.length_map]; exact hpl, hn _ _ ⟨⟨some (.d (eDif x)), rfl⟩, encN_put hxd, hb.add hy⟩⟩
  · rintro ρ' γ' σ' H' ⟨b, ⟨⟨c, d, rfl⟩, rfl, hb⟩, hdone⟩ ns kx
    refine ⟨a, A, _, _, ns, fun H3 k3 hv => hQ _ _ _ (hR b.1 hb.nd fun x y => ?_) (fun c o ec => ?_) (fun c ec => ?_) hv⟩
    · rw [hb.mem, hdone, List.mem_flatMap]
      refine ⟨fun ⟨z, hz, h⟩ => ?_, fun ⟨h1, h2⟩ => ⟨y, h1, List.mem_map.mpr ⟨x, h2, rfl⟩⟩⟩
      obtain ⟨u, hu, e⟩ := List.mem_map.mp h
      injection e with e1 e2
      subst e1 e2
      exact ⟨hz, hu⟩
    · have hc : ¬ (c = a ∨ c ∈ A) := fun m => by rw [hfr c m] at ec; cases ec
      exact k3.keep c o (kx.keep c o (kt.keep c o ec) hc) hc
    · exact kt.trk c (kx.trk c (k3.trk c ec))
end
end SH
end P7
section P8
set_option Elab.async false
set_option linter.all false
set_option maxRecDepth 100000
set_option maxHeartbeats 1000000
/-! P8: in_order -/
namespace SH
open PySem PySem.Spec PyProof.Rows L2 DL SM
abbrev leftD (ds : List Dif) (lf : Dif → Int) : List (NestedKey × PyData) := ds.map fun d => (nk d, PyData.int (lf d))
theorem leftD_at {ds : List Dif} {lf : Dif → Int} {y : Dif} (h : y ∈ ds) : kAt (leftD ds lf) (nk y) = some (.int (lf y)) := by
  induction ds with
  | nil => cases h
  | cons d ds ih =>
    show kAt ((nk d, PyData.int (lf d)) :: leftD ds lf) (nk y) = _
    rw [kAt_cons]
    by_cases e : d = y
    · rw [if_pos (by rw [e]), e]
    · rw [if_neg fun z => e (nk_inj z)]
      exact ih ((List.mem_cons.mp h).resolve_left fun z => e z.symm)
theorem leftD_put {ds : List Dif} {lf : Dif → Int} {y : Dif} {v : Int} (h : y ∈ ds) : kPut (leftD ds lf) (nk y) (.int v) = leftD ds fun d => if d = y then v else lf d := by
  unfold kPut
  rw [if_pos (by rw [leftD_at h]; rfl)]
  show (ds.map _).map _ = ds.map _
  rw [List.map_map]
  refine List.map_congr_left fun d _ => ?_
  show (if nk d = nk y then (nk d, PyData.int v) else (nk d, PyData.int (lf d))) = (nk d, PyData.int (if d = y then v else lf d))
  by_cases e : d = y
  · rw [if_pos (by rw [e]), if_pos e]
  · rw [if_neg fun z => e (nk_inj z), if_neg e]
theorem leftD_congr {ds : List Dif} {lf lf' : Dif → Int} (h : ∀ d ∈ ds, lf d = lf' d) : leftD ds lf = leftD ds lf' := List.map_congr_left fun d hd => by rw [h d hd]
theorem okd_int : Okd PyData.int 0 := ⟨PySem.W.Datum.eqv, fun _ => Nat.le_refl _⟩
section
variable {P : Program} {w : World} {K : PySem.W.Frag} {mg : Str → Option Value} {base : Heap}
abbrev Fin_order : Pr := fun as R => ∃ (ds : List Dif) (pr : Dif → List Dif), as = [.kk (encN ds pr)] ∧ ds.Nodup ∧ ds.length < 1000 ∧ (∀ d ∈ ds, ∀ x ∈ pr d, x ∈ ds) ∧ (∀ d, (pr d).Nodup) ∧ ∀ out, TopoOk ds pr out → R (.d (eL eDif out))
theorem lenin_order : ∀ ds R, Fin_order ds R → ds.length = 1 := by
  rintro ds R ⟨f, p, rfl, _⟩; rfl
/-! in_order: slots 0 ahead, 1 behind, 2 left, 3 waiting, 4 found, 5 first, 6 second, 7 difference -/
abbrev nmin_order : List Str := ["ahead", "behind", "left", "waiting", "found", "first", "second", "difference"]
theorem scin_order : FnScope nmin_order ["ahead"] (defScope (topS 39)) := ⟨rfl, rfl, rfl, by decide +kernel, rfl, by decide +kernel, by decide +kernel⟩
theorem okin_order {f : Addr} {fd : FuncData} {k : Nat} (F : Fun K "in_order" "in_order" (topS 39) f fd) (gx : mg "in_order" = some (.ref f)) (b : Binds K fd ["ahead"] []) (M : Blt mg) (Cturned_about : Cal P w K mg base k "turned_about" 1 Fturned_about) :
    Cal P w K mg base (k + 1) "in_order" 1 Fin_order := by
  refine cal_of F gx b scin_order rfl lenin_order fun cdv A outer s H E hr => ⟨_, (dss_cons (ds_parT (is := [1, 2]) rfl (da_cons (de_fn Cturned_about hr (Nat.le_refl _) rfl (da_cons (de_var 0) da_nil)) (da_cons (de_dc hr.hu rfl scin_order.nd (di_keys (de_var 0)) (blkOk_by (own := [("difference", 7)]) (N := nmin_order) (sc := defScope (topS 39)) (by decide +kernel)) (fun _ _ _ _ _ => (dg_name (i := 7) scin_order.nd rfl (.inl rfl))) (fun _ _ _ _ _ => (de_var 7)) (fun _ _ _ _ _ => (de_lenD rfl rfl M.len (da_cons (de_ixD hr.hu (de_var 0) (de_var 7)) da_nil)))) da_nil)) (pgs_cons (pg_name (i := 1) scin_order.nd rfl (.inl rfl)) (pgs_cons (pg_name (i := 2) scin_order.nd rfl (.inr rfl)) pgs_nil)) set2_ok) (dss_cons (ds_par2 (i := 3) (j := 4) rfl scin_order.nd rfl rfl (by decide) rfl rfl (da_cons (de_sorted hr rfl rfl M.sorted (da_cons (de_lc rfl scin_order.nd (di_keys (de_var 0)) (blkOk_by (own := [("difference", 7)]) (N := nmin_order) (sc := defScope (topS 39)) (by decide +kernel)) (fun _ _ _ _ _ => (dg_name (i := 7) scin_order.nd rfl (.inl rfl))) (fun _ _ _ _ _ => (dts_one (dt_cmp (od_eq hr.hu) (de_ixD hr.hu (de_var 2) (de_var 7)) de_int))) (fun _ _ _ _ _ => (de_var 7))) da_nil)) (da_cons (de_lst da_nil) da_nil)) (by rfl)) (dss_cons (ds_while PassesOwn.never (dt_cmp (od_ne hr.hu) (de_var 3) (de_lst da_nil)) (dss_cons (ds_set (i := 5) scin_order.nd rfl (.inl rfl) (de_popAt rfl (de_var 3) (da_cons de_int da_nil))) (dss_cons (ds_expr (de_append rfl (de_var 4) (da_cons (de_var 5) da_nil))) (dss_cons (ds_for PassesOwn.never rfl (di_keys (de_ixD hr.hu (de_var 1) (de_var 5))) (dg_name (i := 6) scin_order.nd rfl (.inl rfl)) (dss_cons (ds_augD hr.hu ip_sub (de_var 2) (de_var 6) de_int) (dss_one (ds_if (dt_cmp (od_eq hr.hu) (de_ixD hr.hu (de_var 2) (de_var 6)) de_int) (dss_one (ds_expr (de_append rfl (de_var 3) (da_cons (de_var 6) da_nil)))) dss_nil)))) (dss_one (ds_set (i := 3) scin_order.nd rfl (.inl rfl) (de_sorted hr rfl rfl M.sorted (da_cons (de_var 3) da_nil)))))))) (dss_one (ds_ret (de_var 4)))))), ?_⟩
  rintro as R ⟨ds, pr, rfl, hnd, hlen, hsub, hpn, hR⟩
  have hkeys := keys_N ds pr
  refine ⟨_, rfl, ds, pr, rfl, hnd, hlen, hsub, fun pr' hn' h' => .inr ⟨_, rfl, free_ok, ?_⟩⟩
  rw [hkeys]
  refine dc_N (fun d => nk d) (fun d => .int ((pr d).length : Nat)) lt_ok rfl (fun _ _ _ h => h) ds [] (by simpa using Nat.lt_of_lt_of_le hlen (by decide)) (fun d hd K h => ?_) (fun d _ => okkDif.key d) (List.pairwise_map.mpr (hnd.imp fun {a b} h e => h (okkDif.inj e))) (fun _ _ => rfl) ?_
  · refine ⟨_, rfl, okkDif.key d, .inr ⟨_, _, rfl, encN_at hd, _, rfl, .inl ⟨_, rfl, h _ _ rfl ?_⟩⟩⟩
    simp
    rfl
  refine ⟨_, rfl, .inr ⟨_, rfl, free_ok, ?_⟩⟩
  rw [hkeys]
  have lf0 : ∀ d, lft pr [] d = ((pr d).length : Nat) := fun d => by
    unfold lft
    rw [List.filter_eq_self.mpr (by simp)]
  have hl0 : (ds.map fun d => (nkOf (eDif d), PyData.int ((pr d).length : Nat))) = leftD ds (lft pr []) := List.map_congr_left fun d _ => by rw [lf0]
  rw [List.nil_append, hl0]
  refine lc_N (enc := eDif) (encB := eDif) (fun d => decide (lft pr [] d = 0)) id lt_ok rfl (fun d hd K h => ?_) (fun d hd e K h => h) ?_
  · exact ⟨_, rfl, okkDif.key d, .inl ⟨_, _, rfl, leftD_at hd, Nat.zero_le 60, _, rfl, rb (F := fun b => K b _) (okd_int.eq (lft pr [] d) 0) h⟩⟩
  rw [List.map_id]
  refine ⟨srt_Dif _, _, rfl, le_ok, _, rfl, ?_⟩
  rw [srtE_map]
  have k0 : Kahn ds pr [] (srtE eDif (ds.filter fun d => decide (lft pr [] d = 0))) := (Kahn.mk (by simp) (by simp) (by simp) (hnd.filter _) fun d => by rw [List.mem_filter, decide_eq_true_iff]; simp : Kahn ds pr [] _).perm (srtE_perm _ _)
  refine ⟨fun m ρ => ∃ found wait c d, m = ds.length - found.length ∧ Kahn ds pr found wait ∧ ρ = [some (.dat (.kk (encN ds pr))), some (.dat (.kk (encN ds pr'))), some (.dct (leftD ds (lft pr found))), some (.lst (wait.map eDif)), some (.lst (found.map eDif)), oD c, oD d, none],
    ⟨_, [], _, none, none, rfl, k0, rfl⟩, ?_⟩
  rintro m ρ ⟨found, wait, c, d, rfl, hk, rfl⟩
  have hfl : found.length ≤ ds.length := nodup_len hk.nd hk.sub
  have hwl : wait.length ≤ ds.length := nodup_len hk.wnd fun x hx => ((hk.wmem x).mp hx).1
  refine ⟨_, rfl, le_ok, Nat.le_trans (Nat.min_le_right _ _) (by decide), _, rfl, ife ((okd_L okDif).ne wait []) (fun h => ?_) fun h => ?_⟩
  · cases wait with
    | nil => exact absurd rfl h
    | cons f rest =>
      have hf := (hk.wmem f).mp List.mem_cons_self
      obtain ⟨e1, e2, hk2⟩ := hk.step hpn (hn' f) (fun x => h' f x)
      have hl2 : found.length < ds.length := by
        have := nodup_len hk2.nd hk2.sub
        rw [List.length_append] at this
        simp at this; omega
      refine ⟨_, _, rfl, _, rfl, 0, eDif f, rfl, by decide, rfl, _, rfl, lt_ok, ?_⟩
      refine ⟨_, _, rfl, _, rfl, _, rfl, by rw [List.length_map]; exact Nat.lt_of_lt_of_le (Nat.lt_trans hl2 hlen) (by decide), ?_⟩
      refine ⟨_, rfl, okkDif.key f, .inr ⟨_, _, rfl, encN_at hf.1, .inl ⟨_, rfl, ?_⟩⟩⟩
      rw [keys_T]
      have hpl : (pr' f).length ≤ ds.length := nodup_len (hn' f) fun x hx => ((h' f x).mp hx).1
      refine for_inv (enc := eDif) (fun i ρ => ∃ (b : (Dif → Int) × List Dif) (d : Option Dt), b = ((pr' f).take i).foldl dec1 (lft pr found, rest) ∧ b.2.length ≤ 1000 + i ∧ ρ = [some (.dat (.kk (encN ds pr))), some (.dat (.kk (encN ds pr'))), some (.dct (leftD ds b.1)), some (.lst (b.2.map eDif)), some (.lst ((found ++ [f]).map eDif)), some (.dat (.d (eDif f))), oD d, none]) ⟨(lft pr found, rest), d, rfl, ?_, ?_⟩ ?_ ?_
      · simp only [List.length_cons] at hwl
        show rest.length ≤ 1000 + 0
        omega
      · rw [List.map_append]; rfl
      · rintro i x ρ hi ⟨b, d, hb, hbl, rfl⟩ nx hn
        have hx := List.mem_of_getElem? hi
        have hil := (List.getElem?_eq_some_iff.mp hi).1
        have hxd : x ∈ ds := ((h' f x).mp hx).1
        have hb2 : ((pr' f).take (i + 1)).foldl dec1 (lft pr found, rest) = dec1 b x := by
          rw [List.take_succ, hi, hb]
          show List.foldl dec1 _ (_ ++ [x]) = _
          rw [List.foldl_append]; rfl
        refine ⟨lt_ok, _, _, rfl, _, _, _, rfl, okkDif.key x, rfl, leftD_at hxd, _, _, rfl, rfl, by rw [List.length_map]; omega, ?_⟩
        rw [leftD_put hxd]
        refine ⟨_, rfl, okkDif.key x, .inl ⟨_, _, rfl, leftD_at hxd, Nat.zero_le 60, _, rfl, ?_⟩⟩
        refine ife (okd_int.eq _ 0) (fun hz => ?_) fun hz => ?_
        · rw [if_pos rfl] at hz
          have e4 : (dec1 b x).2 = b.2 ++ [x] := if_pos hz
          refine ⟨_, _, rfl, _, rfl, _, rfl, by rw [List.length_map]; exact Nat.lt_of_le_of_lt (m := 3000) (by omega) (by decide), hn _ ⟨_, some (.d (eDif x)), hb2.symm, ?_, ?_⟩⟩
          · rw [e4, List.length_append]; simp only [List.length_cons, List.length_nil]; omega
          · rw [e4, List.map_append (l₁ := b.2)]
            rfl
        · rw [if_pos rfl] at hz
          have e4 : (dec1 b x).2 = b.2 := if_neg hz
          refine hn _ ⟨_, some (.d (eDif x)), hb2.symm, ?_, ?_⟩
          · rw [e4]; omega
          · rw [e4]
            rfl
      · rintro ρ ⟨b, d, hb, hbl, rfl⟩
        rw [List.take_length, dec_all _ _ _ (hn' f)] at hb
        subst hb
        refine ⟨srt_Dif _, _, rfl, lt_ok, _, ?_, found ++ [f], srtE eDif (rest ++ (pr' f).filter fun d => decide (lft pr found d - 1 = 0)), some (.d (eDif f)), d, rfl, hk2.perm (srtE_perm _ _), ?_⟩
        · rw [List.length_append]; simp only [List.length_cons, List.length_nil]; omega
        · rw [srtE_map, leftD_congr e2]
          rfl
  · have h0 : wait = [] := Classical.not_not.mp h
    subst h0
    exact ⟨_, _, rfl, hR found hk.done⟩
end
end SH
end P8
section P9
set_option Elab.async false
set_option linter.all false
set_option maxRecDepth 100000
set_option maxHeartbeats 1000000
/-! P9: the law's bag: take, some, mixed -/
namespace SH
open PySem PySem.Spec PyProof.Rows L2 DL SM
/-- the bag that draws -/
def BagOk (bag : List PyData) : Prop := ∃ (a b c : Int) (cells : List Int), bag = [.int a, .int b, .int c, .list (cells.map .int)] ∧ 0 ≤ a ∧ 0 ≤ b ∧ b < 2147483647 ∧ 0 ≤ c ∧ cells.length ≤ 100 ∧ ∀ x ∈ cells, 0 ≤ x
theorem seq_mid {S1 S2 : Stt} {ρ : Sv} {R : DEnds} (I : Sv → Prop) (h2 : ∀ ρ1, I ρ1 → S2 ρ1 R) (h1 : ∀ nx : Sv → Prop, (∀ ρ1, I ρ1 → nx ρ1) → S1 ρ ⟨nx, R.rt, R.bk, R.ct⟩) : sSeq S1 S2 ρ R := h1 _ h2
theorem cut_len {α : Type} (l : List α) (lo hi : Option Int) : (DL.cutD l lo hi).length ≤ l.length := by
  unfold DL.cutD
  rw [List.length_take, List.length_drop]
  omega
theorem p07 : (0 : Int) < 1000000007 := by decide
theorem p53 : (0 : Int) < 998244353 := by decide
theorem p47 : (0 : Int) < 2147483647 := by decide
theorem lt4 {α : Type} {n : Nat} {l : List α} (h : Nat.ble (n + 1) l.length = true := by rfl) : n < l.length := Nat.le_of_ble_eq_true h
theorem cell_of (cells : List Int) (h : ∀ x ∈ cells, 0 ≤ x) {c : Int} (hc : 0 ≤ c) : ∃ x : Int, 0 ≤ x ∧ atI (DL.cutD (cells.map PyData.int) (some c) none ++ [PyData.int 0]) 0 = some (.int x) := by
  obtain ⟨n, rfl⟩ := Int.eq_ofNat_of_zero_le hc
  rw [show DL.cutD (cells.map PyData.int) (some (n : Int)) none = (cells.drop n).map PyData.int from (cut_from _ n).trans (List.map_drop ..).symm]
  cases e : cells.drop n with
  | nil => exact ⟨0, Int.le_refl _, rfl⟩
  | cons x l => exact ⟨x, h x (List.mem_of_mem_drop (by rw [e]; exact List.mem_cons_self)), atI_nat (j := 0) rfl⟩
section
variable {P : Program} {w : World} {K : PySem.W.Frag} {mg : Str → Option Value} {base : Heap}
abbrev F_law_take : PrB := fun bag ds R => ∃ m : Int, ds = [.d (.int m)] ∧ 0 < m ∧ m < 1000000 ∧ BagOk bag ∧ ∀ (v : Nat) bag', (v : Int) < m → BagOk bag' → R (.d (eN v)) bag'
theorem len_law_take : ∀ bag ds R, F_law_take bag ds R → ds.length + 1 = 2 := by
  rintro bag ds R ⟨m, rfl, _⟩; rfl
/-! _law_take: slots 0 _law_bag_here, 1 _law_many, 2 _law_begin, 3 _law_second, 4 _law_cell, 5 _law_stirred, 6 _law_value -/
abbrev nm_law_take : List Str := ["_law_bag_here", "_law_many", "_law_begin", "_law_second", "_law_cell", "_law_stirred", "_law_value"]
theorem sc_law_take : FnScope nm_law_take ["_law_bag_here", "_law_many"] (defScope (topS 51)) := ⟨rfl, rfl, rfl, by decide +kernel, rfl, by decide +kernel, by decide +kernel⟩
theorem ok_law_take {f : Addr} {fd : FuncData} {k : Nat} (F : Fun K "_law_take" "_law_take" (topS 51) f fd) (gx : mg "_law_take" = some (.ref f)) (b : Binds K fd ["_law_bag_here", "_law_many"] []) (M : Blt mg)  :
    CalB P w K mg base (k + 1) "_law_take" 2 F_law_take := by
  refine calB_of F gx b sc_law_take rfl len_law_take fun cdv A outer s H E hr => ⟨_, (dss_cons (ds_if (dt_cmp (od_eq hr.hu) (de_ix (de_var 0) de_int) de_int) (dss_cons (ds_set (i := 4) sc_law_take.nd rfl (.inl rfl) (de_ix (de_op od_add (de_sl (de_ix (de_var 0) de_int) (do_yes (de_ix (de_var 0) de_int)) do_no) (de_lst (da_cons de_int da_nil))) de_int)) (dss_cons (ds_ixAug ip_add (de_var 0) de_int de_int) (dss_cons (ds_if (dt_cmp od_ge (de_var 4) (de_op od_pow de_int de_int)) (dss_one (ds_ix (de_var 4) (de_var 0) de_int)) dss_nil) (dss_cons (ds_set (i := 5) sc_law_take.nd rfl (.inl rfl) (de_op od_add (de_op od_add (de_op od_mulI (de_ix (de_var 0) de_int) de_int) (de_op od_mod (de_intc rfl rfl M.int (da_cons (de_var 4) da_nil)) de_int)) (de_op od_mulI de_int (de_ix (de_var 0) de_int)))) (dss_one (ds_ix (de_op od_mod (de_intc rfl rfl M.int (da_cons (de_var 5) da_nil)) de_int) (de_var 0) de_int)))))) dss_nil) (dss_cons (ds_if (dt_cmp od_gt (de_ix (de_var 0) de_int) de_int) (dss_cons (ds_set (i := 6) sc_law_take.nd rfl (.inl rfl) (de_op od_mod (de_intc rfl rfl M.int (da_cons (de_ix (de_var 0) de_int) da_nil)) (de_var 1))) (dss_cons (ds_ix (de_op od_fdiv (de_intc rfl rfl M.int (da_cons (de_ix (de_var 0) de_int) da_nil)) (de_var 1)) (de_var 0) de_int) (dss_one (ds_ret (de_var 6))))) dss_nil) (dss_cons (ds_set (i := 2) sc_law_take.nd rfl (.inl rfl) (de_op od_mod (de_intc rfl rfl M.int (da_cons (de_op od_mulI (de_op od_add (de_ix (de_var 0) de_int) de_int) de_int) da_nil)) de_int)) (dss_cons (ds_set (i := 3) sc_law_take.nd rfl (.inl rfl) (de_op od_mod (de_intc rfl rfl M.int (da_cons (de_op od_mulI (de_op od_mod (de_intc rfl rfl M.int (da_cons (de_op od_mulI (de_var 2) (de_var 2)) da_nil)) de_int) de_int) da_nil)) de_int)) (dss_one (ds_ret (de_op od_mod (de_intc rfl rfl M.int (da_cons (de_op od_fdiv (de_var 3) de_int) da_nil)) (de_var 1)))))))), ?_⟩
  rintro bag ds R ⟨m, rfl, h0, h1, ⟨a, b, c, cells, rfl, ha, hb, hb2, hc, hl, hcells⟩, hR⟩
  have hi : ∀ {x : Int}, 0 ≤ x → x < m → ∃ v : Nat, x = (v : Int) ∧ (v : Int) < m := fun {x} p q => ⟨x.toNat, by omega, by omega⟩
  refine seq_mid (fun ρ => ∃ (a b c : Int) (c4 c5 : Option Cell), 0 ≤ a ∧ 0 ≤ b ∧ b < 2147483647 ∧ 0 ≤ c ∧ ρ = [some (.lst [.int a, .int b, .int c, .list (cells.map .int)]), some (.dat (.d (.int m))), none, none, c4, c5, none]) ?_ fun nx hn => ?_
  · rintro ρ ⟨a, b, c, c4, c5, ha, hb, hb2, hc, rfl⟩
    refine ⟨_, rfl, _, rfl, ifd (fun hz => ?_) fun hz => ?_⟩
    · have hm := Int.emod_nonneg a (Int.ne_of_gt h0)
      obtain ⟨v, e1, e2⟩ := hi hm (Int.emod_lt_of_pos a h0)
      refine ⟨_, rfl, h0, _, rfl, lt_ok, ?_⟩
      refine ⟨_, rfl, ⟨h0, by omega⟩, _, rfl, _, _, rfl, 0, _, rfl, rfl, lt4, _, _, rfl, _, rfl, ?_⟩
      refine rl (F := fun i => R (.d (.int i)) _) e1 (hR v _ e2 ⟨a / m, b, c, cells, rfl, Int.ediv_nonneg ha (Int.le_of_lt h0), hb, hb2, hc, hl, hcells⟩)
    · have hb1 : 0 ≤ (b + 1) * 39373 % 1000000007 ∧ (b + 1) * 39373 % 1000000007 < 1000000007 := ⟨Int.emod_nonneg _ (by decide), Int.emod_lt_of_pos _ (by decide)⟩
      have hcm : CMul ((b + 1) * 39373 % 1000000007) ((b + 1) * 39373 % 1000000007) := .inl ⟨by omega, by omega⟩
      refine ⟨_, rfl, .inr (by decide), p07, _, rfl, lt_ok, ?_⟩
      refine ⟨hcm, p53, .inr (by decide), p53, _, rfl, lt_ok, ?_⟩
      refine ⟨⟨by decide, by decide⟩, h0, _, _, rfl, _, rfl, ?_⟩
      obtain ⟨v, e1, e2⟩ := hi (Int.emod_nonneg _ (Int.ne_of_gt h0)) (Int.emod_lt_of_pos ((((b + 1) * 39373 % 1000000007) * ((b + 1) * 39373 % 1000000007) % 998244353 * 30011 % 998244353) / 7) h0)
      exact rl (F := fun i => R (.d (.int i)) _) e1 (hR v _ e2 ⟨a, b, c, cells, rfl, ha, hb, hb2, hc, hl, hcells⟩)
  refine ⟨_, rfl, Nat.zero_le 60, _, rfl, ife (okd_int.eq a 0) (fun hz => ?_) fun hz => ?_⟩
  · obtain ⟨x, hx, hxg⟩ := cell_of cells hcells hc
    refine ⟨_, rfl, _, rfl, _, rfl, _, rfl, le_ok, ?_, _, hxg, _, rfl, lt_ok, ?_⟩
    · have := cut_len (cells.map PyData.int) (some c) none
      rw [List.length_map] at this
      show (DL.cutD (cells.map PyData.int) (some c) none).length + 1 ≤ sizeLine
      exact Nat.le_trans (m := 1000) (by omega) (by decide)
    refine ⟨_, _, rfl, 2, _, _, rfl, by decide, rfl, rfl, _, _, rfl, rfl, lt4, ?_⟩
    dsimp only
    refine seq_mid (fun ρ => ∃ (a' : Int), 0 ≤ a' ∧ ρ = [some (.lst [.int a', .int b, .int (c + 1), .list (cells.map .int)]), some (.dat (.d (.int m))), none, none, some (.dat (.d (.int x))), none, none]) ?_ fun nx2 hn2 => ?_
    · rintro ρ ⟨a', ha', rfl⟩
      refine ⟨_, rfl, .inr (by decide), p47, _, rfl, .inl (by decide), _, rfl, lt_ok, ?_⟩
      refine ⟨p47, _, rfl, _, _, rfl, 1, _, rfl, rfl, lt4, hn _ ⟨a', _, c + 1, _, _, ha', Int.emod_nonneg _ (by decide), Int.emod_lt_of_pos _ (by decide), by omega, rfl⟩⟩
    · refine ⟨⟨by decide, by decide, by decide⟩, _, rfl, ifd (fun h => ?_) fun h => ?_⟩
      · exact ⟨_, rfl, _, _, rfl, 0, _, rfl, rfl, lt4, hn2 _ ⟨x, hx, rfl⟩⟩
      · exact hn2 _ ⟨a, ha, rfl⟩
  · exact hn _ ⟨a, b, c, none, none, ha, hb, hb2, hc, rfl⟩
/-- the items of a sequence -/
def seqOf : PyData → Option (List PyData)
  | .list l => some l
  | .tuple l => some l
  | .str z => some (signsD z)
  | _ => none
abbrev F_law_some : PrB := fun bag ds R => ∃ (d : PyData) (l : List PyData), ds = [.d d] ∧ seqOf d = some l ∧ 0 < l.length ∧ l.length < 1000 ∧ BagOk bag ∧ ∀ x ∈ l, ∀ bag', BagOk bag' → R (.d x) bag'
theorem len_law_some : ∀ bag ds R, F_law_some bag ds R → ds.length + 1 = 2 := by
  rintro bag ds R ⟨d, l, rfl, _⟩; rfl
/-! _law_some: slots 0 _law_bag_here, 1 _law_things -/
abbrev nm_law_some : List Str := ["_law_bag_here", "_law_things"]
theorem sc_law_some : FnScope nm_law_some ["_law_bag_here", "_law_things"] (defScope (topS 52)) := ⟨rfl, rfl, rfl, by decide +kernel, rfl, by decide +kernel, by decide +kernel⟩
theorem ok_law_some {f : Addr} {fd : FuncData} {k : Nat} (F : Fun K "_law_some" "_law_some" (topS 52) f fd) (gx : mg "_law_some" = some (.ref f)) (b : Binds K fd ["_law_bag_here", "_law_things"] []) (M : Blt mg) (C_law_take : CalB P w K mg base k "_law_take" 2 F_law_take) :
    CalB P w K mg base (k + 1) "_law_some" 2 F_law_some := by
  refine calB_of F gx b sc_law_some rfl len_law_some fun cdv A outer s H E hr => ⟨_, (dss_one (ds_ret (de_ix (de_var 1) (de_fnB C_law_take hr (Nat.le_refl _) rfl (da_cons (de_var 0) (da_cons (de_len rfl rfl M.len (da_cons (de_var 1) da_nil)) da_nil)))))), ?_⟩
  rintro bag ds R ⟨d, l, rfl, hd, h0, h1, hb, hR⟩
  have key : ∀ (v : Nat) bag', (v : Int) < (l.length : Nat) → BagOk bag' → ∃ x, l[v]? = some x ∧ R (.d x) bag' := fun v bag' hv hb' => by
    have hv : v < l.length := by omega
    exact ⟨l[v], List.getElem?_eq_getElem hv, hR _ (List.getElem_mem hv) bag' hb'⟩
  cases d with
  | list l' =>
    cases hd
    refine ⟨0, _, bag, _, rfl, rfl, rfl, _, rfl, by omega, by omega, hb, fun v bag' hv hb' => ?_⟩
    obtain ⟨x, h2, h3⟩ := key v bag' hv hb'
    exact ⟨_, atI_nat h2, _, _, rfl, _, rfl, h3⟩
  | tuple l' =>
    cases hd
    refine ⟨0, _, bag, _, rfl, rfl, rfl, _, rfl, by omega, by omega, hb, fun v bag' hv hb' => ?_⟩
    obtain ⟨x, h2, h3⟩ := key v bag' hv hb'
    exact ⟨_, atI_nat h2, _, _, rfl, _, rfl, h3⟩
  | str z =>
    cases hd
    have hz : (signsD z).length = z.length := by unfold signsD; rw [List.length_map, Array.length_toList]; rfl
    rw [hz] at h0 h1
    have hzs : z.length ≤ sizeLine := Nat.le_trans (Nat.le_of_lt h1) (by decide)
    refine ⟨hzs, 0, _, bag, _, rfl, rfl, rfl, _, rfl, by omega, by omega, hb, fun v bag' hv hb' => ?_⟩
    obtain ⟨x, h2, h3⟩ := key v bag' (by rw [hz]; exact hv) hb'
    unfold signsD at h2
    rw [List.getElem?_map] at h2
    obtain ⟨c, h4, rfl⟩ := Option.map_eq_some_iff.mp h2
    exact ⟨hzs, c, atI_nat h4, _, _, rfl, _, rfl, h3⟩
  | none => cases hd
  | bool _ => cases hd
  | int _ => cases hd
  | dict _ => cases hd
abbrev F_law_mixed : PrB := fun bag ds R => ∃ (l : List PyData), ds = [.d (.list l)] ∧ l.length < 1000 ∧ BagOk bag ∧ ∀ l' bag', l'.Perm l → BagOk bag' → R (.d (.list l')) bag'
theorem len_law_mixed : ∀ bag ds R, F_law_mixed bag ds R → ds.length + 1 = 2 := by
  rintro bag ds R ⟨l, rfl, _⟩; rfl
/-! _law_mixed: slots 0 _law_bag_here, 1 _law_things, 2 _law_found, 3 _law_thing -/
abbrev nm_law_mixed : List Str := ["_law_bag_here", "_law_things", "_law_found", "_law_thing"]
theorem sc_law_mixed : FnScope nm_law_mixed ["_law_bag_here", "_law_things"] (defScope (topS 53)) := ⟨rfl, rfl, rfl, by decide +kernel, rfl, by decide +kernel, by decide +kernel⟩
theorem ok_law_mixed {f : Addr} {fd : FuncData} {k : Nat} (F : Fun K "_law_mixed" "_law_mixed" (topS 53) f fd) (gx : mg "_law_mixed" = some (.ref f)) (b : Binds K fd ["_law_bag_here", "_law_things"] []) (M : Blt mg) (C_law_take : CalB P w K mg base k "_law_take" 2 F_law_take) :
    CalB P w K mg base (k + 1) "_law_mixed" 2 F_law_mixed := by
  refine calB_of F gx b sc_law_mixed rfl len_law_mixed fun cdv A outer s H E hr => ⟨_, (dss_cons (ds_set (i := 2) sc_law_mixed.nd rfl (.inl rfl) (de_lst da_nil)) (dss_cons (ds_for PassesOwn.never rfl (di_list (de_var 1)) (dg_name (i := 3) sc_law_mixed.nd rfl (.inl rfl)) (dss_one (ds_expr (de_insert rfl (de_var 2) (da_cons (de_fnB C_law_take hr (Nat.le_refl _) rfl (da_cons (de_var 0) (da_cons (de_op od_add (de_len rfl rfl M.len (da_cons (de_var 2) da_nil)) de_int) da_nil))) (da_cons (de_var 3) da_nil)))))) (dss_one (ds_ret (de_var 2))))), ?_⟩
  rintro bag ds R ⟨l, rfl, hl, hb, hR⟩
  refine ⟨_, rfl, le_ok, _, rfl, lt_ok, _, rfl, ?_⟩
  have hid : l = l.map id := by rw [List.map_id]
  rw [hid]
  refine for_inv (enc := id) (fun i ρ => ∃ bag found c, BagOk bag ∧ found.Perm (l.take i) ∧ ρ = [some (.lst bag), some (.dat (.d (.list l))), some (.lst found), oD c]) ⟨bag, [], none, hb, by simp, ?_⟩ ?_ ?_
  · rw [← hid]; rfl
  · rintro i x ρ hi ⟨bag, found, c, hb, hp, rfl⟩ nx hn
    have hil := (List.getElem?_eq_some_iff.mp hi).1
    have hfl : found.length = i := by rw [hp.length_eq, List.length_take]; omega
    refine ⟨lt_ok, _, _, rfl, _, _, _, _, rfl, rfl, rfl, _, rfl, by omega, by omega, hb, fun v bag' hv hb' => ?_⟩
    refine ⟨_, rfl, v, x, rfl, by omega, ?_, hn _ ⟨bag', _, some (.d x), hb', ?_, rfl⟩⟩
    · rw [hfl]; exact Nat.lt_of_lt_of_le (Nat.lt_trans hil hl) (by decide)
    · rw [List.take_succ, hi]
      have h1 : (found.take v ++ [x] ++ found.drop v).Perm (found ++ [x]) := by
        have h2 : (found.take v ++ [x] ++ found.drop v).Perm (found.take v ++ (found.drop v ++ [x])) := by
          rw [List.append_assoc]
          exact List.Perm.append_left _ List.perm_append_comm
        rw [← List.append_assoc, List.take_append_drop] at h2
        exact h2
      exact h1.trans (hp.append_right _)
  · rintro ρ ⟨bag, found, c, hb, hp, rfl⟩
    rw [List.take_length] at hp
    exact ⟨_, _, rfl, bag, rfl, hR found bag hp hb⟩
end
end SH
end P9
section P10
set_option Elab.async false
set_option linter.all false
set_option maxRecDepth 100000
set_option maxHeartbeats 1000000
/-! P10: the law's names -/
namespace DL
open PySem PySem.Spec PyProof.Rows L2
/-- a comprehension by what holds behind i turns -/
theorem lc_inv {α : Type} {enc : α → PyData} {G : Gt} {T : Tt} {E : Et} {vs : List Nat} {Q : List PyData → Sv → Prop} (I : Nat → List PyData → Sv → Prop) : ∀ (xs : List α) (k : Nat) (acc : List PyData) (ρ : Sv), I k acc ρ →
    (∀ (i : Nat) (x : α) (acc : List PyData) (ρ : Sv), xs[i]? = some x → I (k + i) acc ρ → ∀ (K1 : Dx → Sv → Prop) (K0 : Sv → Prop), (∀ X ρ3 d, dats [X] = some [d] → I (k + i + 1) (acc ++ [d]) (wipeE ρ3 vs) → K1 X ρ3) → (∀ ρ2, I (k + i + 1) acc (wipeE ρ2 vs) → K0 ρ2) →
      G (enc x) ρ fun ρ1 => T ρ1 fun b ρ2 => if b = true then E ρ2 K1 else K0 ρ2) →
    (∀ acc ρ, I (k + xs.length) acc ρ → Q acc ρ) → lcW G T E vs (xs.map enc) ρ acc Q
  | [], k, acc, ρ, h, _, hd => hd acc ρ h
  | x :: xs, k, acc, ρ, h, hs, hd => by
    have e1 : ∀ i, k + (i + 1) = k + 1 + i := fun i => by omega
    have go : ∀ acc' ρ', I (k + 1) acc' ρ' → lcW G T E vs (xs.map enc) ρ' acc' Q := fun acc' ρ' h' => by
      refine lc_inv I xs (k + 1) acc' ρ' h' (fun i y a r e hi K1 K0 h1 h0 => ?_) fun a r hr => hd a r ?_
      · have := hs (i + 1) y a r e (by rw [e1]; exact hi) K1 K0
        rw [e1] at this
        exact this h1 h0
      · rw [List.length_cons, e1]; exact hr
    exact hs 0 x acc ρ rfl h _ _ (fun X ρ3 d e hi => ⟨d, e, go _ _ hi⟩) fun ρ2 hi => go _ _ hi
end DL
namespace SH
open PySem PySem.Spec PyProof.Rows L2 DL SM
abbrev LET : Str := "abcdefghijklmnopqrstuvwxyz"
/-- its signs -/
abbrev letC (n : Nat) : Nat := 97 + n % 26
theorem let_at {n : Nat} : (LET.cps.toList)[n % 26]? = some (letC n) := by
  have h : ∀ m, m < 26 → (LET.cps.toList)[m]? = some (97 + m) := by decide +kernel
  exact h _ (Nat.mod_lt _ (by decide))
theorem let_mem {c : Nat} (h : c ∈ LET.cps.toList) : (Builtin.Str.occurrences LET ⟨#[c]⟩ 0 (Str.length LET) 1).isEmpty = false := by
  have h2 : ∀ c ∈ LET.cps.toList, (Builtin.Str.occurrences LET ⟨#[c]⟩ 0 (Str.length LET) 1).isEmpty = false := by decide +kernel
  exact h2 c h
theorem letC_mem (n : Nat) : letC n ∈ LET.cps.toList := List.mem_of_getElem? let_at
theorem let_sm : ∀ c ∈ LET.cps.toList, c < 128 := by decide +kernel
theorem nameOk {x : Str} (h1 : 1 ≤ x.length) (h2 : x.length ≤ 12) (h3 : ∀ c ∈ x.cps.toList, c ∈ LET.cps.toList) : NameOk x := ⟨h1, h2, fun c hc => let_mem (h3 c hc), fun c hc => let_sm c (h3 c hc)⟩
theorem letC_inj {f i j : Nat} (hi : i < 26) (hj : j < 26) (h : letC (f + i) = letC (f + j)) : i = j := by
  unfold letC at h
  omega
/-- names, all of them well formed, no two alike -/
structure NmsOk (l : List Str) (n : Nat) : Prop where
  len : l.length = n
  nd : l.Nodup
  ok : ∀ x ∈ l, NameOk x
/-- names gathered one by one, told apart by a tag -/
structure NI (tag : Str → Nat) (f : Nat → Nat) (i : Nat) (l : List Str) : Prop where
  len : l.length = i
  nd : l.Nodup
  ok : ∀ x ∈ l, NameOk x
  tg : ∀ x ∈ l, ∃ j, j < i ∧ tag x = f j
theorem NI.step {tag : Str → Nat} {f : Nat → Nat} {i : Nat} {l : List Str} {x : Str} (h : NI tag f i l) (hx : NameOk x) (ht : tag x = f i) (hf : ∀ j < i, f j ≠ f i) : NI tag f (i + 1) (l ++ [x]) := by
  refine ⟨by simp [h.len], List.nodup_append.mpr ⟨h.nd, by simp, ?_⟩, fun y hy => ?_, fun y hy => ?_⟩
  · intro y hy z hz
    obtain ⟨j, hj, e⟩ := h.tg y hy
    simp only [List.mem_singleton] at hz
    subst hz
    rintro rfl
    exact hf j hj (e.symm.trans ht)
  · rcases List.mem_append.mp hy with hy | hy
    · exact h.ok y hy
    · simp only [List.mem_singleton] at hy
      subst hy; exact hx
  · rcases List.mem_append.mp hy with hy | hy
    · obtain ⟨j, hj, e⟩ := h.tg y hy
      exact ⟨j, by omega, e⟩
    · simp only [List.mem_singleton] at hy
      subst hy
      exact ⟨i, by omega, ht⟩
abbrev nmS (n kd fi : Nat) (bag : List PyData) (c6 c7 : Option Cell) : Sv := [some (.lst bag), some (.dat (.d (eN n))), some (.dat (.d (.str LET))), some (.dat (.d (eN kd))), some (.dat (.d (eN fi))), none, c6, c7, none]
theorem lc_names {E : Et} {Q : List PyData → Sv → Prop} {n kd fi : Nat} {c7 : Option Cell} {bag : List PyData} (tag : Str → Nat) (f : Nat → Nat) (hb : BagOk bag) (hf : ∀ i < n, ∀ j < i, f j ≠ f i)
    (hE : ∀ i bag, i < n → BagOk bag → ∀ K : Dx → Sv → Prop, (∀ x bag', BagOk bag' → NameOk x → tag x = f i → K (.dat (.d (.str x))) (nmS n kd fi bag' (some (.dat (.d (eN i)))) c7)) → E (nmS n kd fi bag (some (.dat (.d (eN i)))) c7) K)
    (q : ∀ l bag', BagOk bag' → NmsOk l n → Q (l.map .str) (nmS n kd fi bag' none c7)) : lcW (gN 6) tYesD E [6] (rgFrom 0 ((n : Nat) : Int).toNat) (nmS n kd fi bag none c7) [] Q := by
  have e1 : rgFrom 0 ((n : Nat) : Int).toNat = (List.range n).map eN := by
    rw [Int.toNat_natCast]
    unfold rgFrom
    simp [eN]
  rw [e1]
  refine lc_inv (fun i acc ρ => ∃ bag l, BagOk bag ∧ NI tag f i l ∧ acc = l.map .str ∧ ρ = nmS n kd fi bag none c7) (List.range n) 0 [] _ ⟨bag, [], hb, ⟨rfl, List.nodup_nil, by simp, by simp⟩, rfl, rfl⟩ ?_ ?_
  · rintro i x acc ρ hi ⟨bag, l, hb, hl, rfl, rfl⟩ K1 K0 h1 h0
    obtain ⟨hin, e⟩ := List.getElem?_eq_some_iff.mp hi
    clear hi
    rw [List.getElem_range] at e
    subst e
    rw [List.length_range] at hin
    rw [Nat.zero_add] at hl h1
    refine ⟨lt_ok, ?_⟩
    show E _ _
    refine hE i bag hin hb _ fun x bag' hb' hx ht => ?_
    exact h1 _ _ _ rfl ⟨bag', l ++ [x], hb', hl.step hx ht (hf i hin), by rw [List.map_append]; rfl, rfl⟩
  · rintro acc ρ ⟨bag, l, hb, hl, rfl, rfl⟩
    rw [List.length_range, Nat.zero_add] at hl
    exact q l bag hb ⟨hl.len, hl.nd, hl.ok⟩
theorem let_ix (f i : Nat) : atI LET.cps.toList ((((f : Nat) : Int) + ((i : Nat) : Int)) % 26) = some (letC (f + i)) := by
  have : (((f : Nat) : Int) + ((i : Nat) : Int)) % 26 = (((f + i) % 26 : Nat) : Int) := by omega
  rw [this]
  exact atI_nat let_at
theorem let_ix0 {f : Nat} (h : f < 26) : atI LET.cps.toList ((f : Nat) : Int) = some (letC f) := by
  refine atI_nat ?_
  rw [← let_at (n := f), Nat.mod_eq_of_lt h]
theorem p26 : (0 : Int) < 26 := by decide
theorem let_len : LET.length ≤ sizeLine := Nat.le_trans (m := 100) (by decide) (by decide)
theorem name1 (n : Nat) : NameOk ⟨#[letC n]⟩ := nameOk (by show 1 ≤ Array.size _; simp) (by show Array.size _ ≤ 12; simp) (by intro c hc; simp at hc; rw [hc]; exact letC_mem n)
theorem perm_map_inv {α β : Type} {f : α → β} {l' : List β} {l : List α} (h : l'.Perm (l.map f)) : ∃ l2 : List α, l' = l2.map f ∧ l2.Perm l := by
  have key : ∀ {l' m : List β}, l'.Perm m → ∀ l : List α, m = l.map f → ∃ l2 : List α, l' = l2.map f ∧ l2.Perm l := by
    intro l' m h
    induction h with
    | nil => intro l e; exact ⟨l, e, .refl _⟩
    | cons x _ ih =>
      intro l e
      cases l with
      | nil => cases e
      | cons y l =>
        rw [List.map_cons, List.cons.injEq] at e
        obtain ⟨l2, h1, h2⟩ := ih l e.2
        exact ⟨y :: l2, by rw [List.map_cons, e.1, h1], h2.cons y⟩
    | swap x y t =>
      intro l e
      cases l with
      | nil => cases e
      | cons a l =>
        cases l with
        | nil => simp at e
        | cons b l =>
          simp only [List.map_cons, List.cons.injEq] at e
          exact ⟨b :: a :: l, by simp [e], .swap ..⟩
    | trans _ _ ih1 ih2 =>
      intro l e
      obtain ⟨l2, h1, h2⟩ := ih2 l e
      obtain ⟨l3, h3, h4⟩ := ih1 l2 h1
      exact ⟨l3, h3, h4.trans h2⟩
  exact key h l rfl
theorem app_list (x y : Str) : (x ++ y).cps.toList = x.cps.toList ++ y.cps.toList := by
  show (x.cps ++ y.cps).toList = _
  rw [Array.toList_append]
theorem app_len (x y : Str) : (x ++ y).length = x.length + y.length := by
  show (x.cps ++ y.cps).size = _
  rw [Array.size_append]; rfl
section
variable {P : Program} {w : World} {K : PySem.W.Frag} {mg : Str → Option Value} {base : Heap}
abbrev F_law_names : PrB := fun bag ds R => ∃ n : Nat, ds = [.d (eN n)] ∧ n ≤ 12 ∧ BagOk bag ∧ ∀ l bag', NmsOk l n → BagOk bag' → R (.d (.list (l.map .str))) bag'
theorem len_law_names : ∀ bag ds R, F_law_names bag ds R → ds.length + 1 = 2 := by
  rintro bag ds R ⟨n, rfl, _⟩; rfl
/-! _law_names: slots 0 _law_bag_here, 1 _law_many, 2 _law_letters, 3 _law_kind, 4 _law_first, 5 _law_found, 6 _law_at, 7 _law_stem, 8 _law_turn -/
abbrev nm_law_names : List Str := ["_law_bag_here", "_law_many", "_law_letters", "_law_kind", "_law_first", "_law_found", "_law_at", "_law_stem", "_law_turn"]
theorem sc_law_names : FnScope nm_law_names ["_law_bag_here", "_law_many"] (defScope (topS 55)) := ⟨rfl, rfl, rfl, by decide +kernel, rfl, by decide +kernel, by decide +kernel⟩
theorem ok_law_names {f : Addr} {fd : FuncData} {k : Nat} (F : Fun K "_law_names" "_law_names" (topS 55) f fd) (gx : mg "_law_names" = some (.ref f)) (b : Binds K fd ["_law_bag_here", "_law_many"] []) (M : Blt mg) (C_law_mixed : CalB P w K mg base k "_law_mixed" 2 F_law_mixed) (C_law_some : CalB P w K mg base k "_law_some" 2 F_law_some) (C_law_take : CalB P w K mg base k "_law_take" 2 F_law_take) :
    CalB P w K mg base (k + 1) "_law_names" 2 F_law_names := by
  refine calB_of F gx b sc_law_names rfl len_law_names fun cdv A outer s H E hr => ⟨_, (dss_cons (ds_parT (is := [2, 3, 4]) rfl (da_cons de_str (da_cons (de_fnB C_law_take hr (Nat.le_refl _) rfl (da_cons (de_var 0) (da_cons de_int da_nil))) (da_cons (de_fnB C_law_take hr (Nat.le_refl _) rfl (da_cons (de_var 0) (da_cons de_int da_nil))) da_nil))) (pgs_cons (pg_name (i := 2) sc_law_names.nd rfl (.inr rfl)) (pgs_cons (pg_name (i := 3) sc_law_names.nd rfl (.inl rfl)) (pgs_cons (pg_name (i := 4) sc_law_names.nd rfl (.inr rfl)) pgs_nil))) set3_ok) (dss_cons (ds_if (dt_cmp (od_eq hr.hu) (de_var 3) de_int) (dss_one (ds_setLc (i := 5) rfl sc_law_names.nd rfl rfl (sw_true rfl rfl rfl (by decide +kernel)) (di_range1 rfl rfl M.range (da_cons (de_var 1) da_nil)) (blkOk_by (own := [("_law_at", 6)]) (N := nm_law_names) (sc := defScope (topS 55)) (by decide +kernel)) (fun _ _ _ _ _ => (dg_name (i := 6) sc_law_names.nd rfl (.inl rfl))) (fun _ _ _ _ _ => dts_nil) (fun _ _ _ _ _ => (de_ix (de_var 2) (de_op od_mod (de_intc rfl rfl M.int (da_cons (de_op od_add (de_var 4) (de_var 6)) da_nil)) de_int))))) (dss_one (ds_if (dt_cmp (od_eq hr.hu) (de_var 3) de_int) (dss_one (ds_setLc (i := 5) rfl sc_law_names.nd rfl rfl (sw_true rfl rfl rfl (by decide +kernel)) (di_range1 rfl rfl M.range (da_cons (de_var 1) da_nil)) (blkOk_by (own := [("_law_at", 6)]) (N := nm_law_names) (sc := defScope (topS 55)) (by decide +kernel)) (fun _ _ _ _ _ => (dg_name (i := 6) sc_law_names.nd rfl (.inl rfl))) (fun _ _ _ _ _ => dts_nil) (fun _ _ _ _ _ => (de_op od_mulS (de_ix (de_var 2) (de_var 4)) (de_op od_add (de_var 6) de_int))))) (dss_one (ds_if (dt_cmp (od_eq hr.hu) (de_var 3) de_int) (dss_cons (ds_set (i := 7) sc_law_names.nd rfl (.inr rfl) (de_join rfl de_str (de_lc rfl sc_law_names.nd (di_range1 rfl rfl M.range (da_cons (de_fnB C_law_take hr (Nat.le_refl _) rfl (da_cons (de_var 0) (da_cons de_int da_nil))) da_nil)) (blkOk_by (own := [("_law_turn", 8)]) (N := nm_law_names) (sc := defScope (topS 55)) (by decide +kernel)) (fun _ _ _ _ _ => (dg_name (i := 8) sc_law_names.nd rfl (.inl rfl))) (fun _ _ _ _ _ => dts_nil) (fun _ _ _ _ _ => (de_fnB C_law_some hr (Nat.le_refl _) rfl (da_cons (de_var 0) (da_cons (de_var 2) da_nil))))))) (dss_one (ds_setLc (i := 5) rfl sc_law_names.nd rfl rfl (sw_true rfl rfl rfl (by decide +kernel)) (di_range1 rfl rfl M.range (da_cons (de_var 1) da_nil)) (blkOk_by (own := [("_law_at", 6)]) (N := nm_law_names) (sc := defScope (topS 55)) (by decide +kernel)) (fun _ _ _ _ _ => (dg_name (i := 6) sc_law_names.nd rfl (.inl rfl))) (fun _ _ _ _ _ => dts_nil) (fun _ _ _ _ _ => (de_op od_add (de_var 7) (de_ix (de_var 2) (de_op od_mod (de_intc rfl rfl M.int (da_cons (de_op od_add (de_var 4) (de_var 6)) da_nil)) de_int))))))) (dss_one (ds_setLc (i := 5) rfl sc_law_names.nd rfl rfl (sw_true rfl rfl rfl (by decide +kernel)) (di_range1 rfl rfl M.range (da_cons (de_var 1) da_nil)) (blkOk_by (own := [("_law_at", 6)]) (N := nm_law_names) (sc := defScope (topS 55)) (by decide +kernel)) (fun _ _ _ _ _ => (dg_name (i := 6) sc_law_names.nd rfl (.inl rfl))) (fun _ _ _ _ _ => dts_nil) (fun _ _ _ _ _ => (de_op od_add (de_ix (de_var 2) (de_op od_mod (de_intc rfl rfl M.int (da_cons (de_op od_add (de_var 4) (de_var 6)) da_nil)) de_int)) (de_fnB C_law_some hr (Nat.le_refl _) rfl (da_cons (de_var 0) (da_cons (de_frz (de_lst (da_cons de_str (da_cons de_str (da_cons de_str (da_cons (de_sl (de_var 2) do_no (do_yes de_int)) da_nil)))))) da_nil)))))))))))) (dss_lock (i := 5) (dss_one (ds_ret (de_fnB C_law_mixed hr (Nat.le_refl _) rfl (da_cons (de_var 0) (da_cons (de_var 5) da_nil)))))))), ?_⟩
  rintro bag ds R ⟨n, rfl, hn, hb, hR⟩
  refine ⟨_, _, bag, _, rfl, rfl, rfl, _, rfl, by decide, by decide, hb, fun kd bag1 hkd hb1 => ⟨_, _, bag1, _, rfl, rfl, rfl, _, rfl, by decide, by decide, hb1, fun fi bag2 hfi hb2 => ⟨_, rfl, ?_⟩⟩⟩
  dsimp only
  have hkd : (kd : Int) < 4 := hkd
  have hfi : fi < 26 := by omega
  refine seq_mid (fun ρ => ∃ l bag c7, NmsOk l n ∧ BagOk bag ∧ ρ = [some (.lst bag), some (.dat (.d (eN n))), some (.dat (.d (.str LET))), some (.dat (.d (eN kd))), some (.dat (.d (eN fi))), some (.lst (l.map .str)), none, c7, none]) ?_ fun nx hnx => ?_
  · rintro ρ ⟨l, bag, c7, hl, hb, rfl⟩
    refine ⟨_, _, rfl, rfl, rfl, 0, _, bag, _, rfl, rfl, rfl, _, rfl, by rw [List.length_map, hl.len]; omega, hb, fun l' bag' hp hb' => ⟨_, _, rfl, bag', rfl, ?_⟩⟩
    obtain ⟨l2, rfl, hp2⟩ := perm_map_inv hp
    exact hR l2 bag' ⟨hp2.length_eq.trans hl.len, hp2.nodup_iff.mpr hl.nd, fun x hx => hl.ok x (hp2.mem_iff.mp hx)⟩ hb'
  refine ⟨Nat.zero_le 60, _, rfl, ife (okd_nat.eq kd 0) (fun hk => ?_) fun hk => ?_⟩
  · refine ⟨_, rfl, by omega, by omega, free_ok, ?_⟩
    refine lc_names (c7 := none) (fun x => x.cps.toList.headD 0) (fun j => letC (fi + j)) hb2 (fun i hi j hj e => by have := letC_inj (by omega) (by omega) e; omega) (fun i bag hi hb K hK => ?_) fun l bag' hb' hl => ?_
    · exact ⟨p26, let_len, _, let_ix fi i, hK _ bag hb (name1 _) rfl⟩
    · exact ⟨_, rfl, lt_ok, hnx _ ⟨l, bag', none, hl, hb', rfl⟩⟩
  · refine ⟨Nat.zero_le 60, _, rfl, ife (okd_nat.eq kd 1) (fun hk => ?_) fun hk => ?_⟩
    · refine ⟨_, rfl, by omega, by omega, free_ok, ?_⟩
      refine lc_names (c7 := none) (fun x => x.length) (fun j => j + 1) hb2 (fun i hi j hj e => by omega) (fun i bag hi hb K hK => ?_) fun l bag' hb' hl => ?_
      · refine ⟨let_len, _, let_ix0 hfi, rfl, by omega, by omega, fun t ht hc => hK t bag hb ?_ ?_⟩
        · have ht : t.length = i + 1 := by rw [ht]; omega
          exact nameOk (by omega) (by omega) fun c h => by
            have := hc c h
            simp at this
            rw [this]; exact letC_mem fi
        · rw [ht]; omega
      · exact ⟨_, rfl, lt_ok, hnx _ ⟨l, bag', none, hl, hb', rfl⟩⟩
    · refine ⟨Nat.zero_le 60, _, rfl, ife (okd_nat.eq kd 2) (fun hk => ?_) fun hk => ?_⟩
      · refine ⟨rfl, _, _, bag2, _, rfl, rfl, rfl, _, rfl, by decide, by decide, hb2, fun m bag3 hm hb3 => ⟨_, rfl, by omega, by omega, free_ok, ?_⟩⟩
        have hm : m < 12 := by omega
        have e1 : rgFrom 0 ((m : Nat) : Int).toNat = (List.range m).map eN := by
          rw [Int.toNat_natCast]
          unfold rgFrom
          simp [eN]
        rw [e1]
        refine lc_inv (fun i acc ρ => ∃ (bag : List PyData) (ys : List Str), BagOk bag ∧ ys.length = i ∧ acc = ys.map .str ∧ (∀ y ∈ ys, y.length = 1 ∧ ∀ c ∈ y.cps.toList, c ∈ LET.cps.toList) ∧ ρ = nmS n kd fi bag none none) (List.range m) 0 [] _ ⟨bag3, [], hb3, rfl, rfl, by simp, rfl⟩ ?_ ?_
        · rintro i x acc ρ hi ⟨bag, ys, hb, hl, rfl, hy, rfl⟩ K1 K0 h1 h0
          refine ⟨lt_ok, _, _, bag, _, rfl, rfl, rfl, .str LET, _, rfl, rfl, by decide, by decide, hb, fun x hx bag' hb' => ?_⟩
          obtain ⟨c, hc, rfl⟩ := List.mem_map.mp hx
          exact h1 _ _ _ rfl ⟨bag', ys ++ [⟨#[c]⟩], hb', by simp [hl], by rw [List.map_append]; rfl, fun y h => by
            rcases List.mem_append.mp h with h | h
            · exact hy y h
            · simp only [List.mem_singleton] at h
              subst h
              exact ⟨rfl, fun c' h => by simp at h; rw [h]; exact hc⟩, rfl⟩
        · rintro acc ρ ⟨bag, ys, hb, hl, rfl, hy, rfl⟩
          rw [List.length_range, Nat.zero_add] at hl
          have hsum : ∀ zs : List Str, (∀ y ∈ zs, y.length = 1) → (zs.map Str.length).sum = zs.length ∧ txts (zs.map .str) = some zs := by
            intro zs
            induction zs with
            | nil => intro _; exact ⟨rfl, rfl⟩
            | cons z zs ih =>
              intro h
              obtain ⟨h1, h2⟩ := ih fun y hy => h y (List.mem_cons_of_mem _ hy)
              refine ⟨?_, ?_⟩
              · rw [List.map_cons, List.sum_cons, h z List.mem_cons_self, h1, List.length_cons]; omega
              · rw [List.map_cons, txts, h2]; rfl
          obtain ⟨h1, h2⟩ := hsum ys fun y h => (hy y h).1
          refine ⟨_, ys, rfl, h2, by omega, fun t ht hc => ⟨_, rfl, lt_ok, ?_⟩⟩
          refine ⟨_, rfl, by omega, by omega, free_ok, ?_⟩
          refine lc_names (c7 := some (.dat (.d (.str t)))) (fun x => x.cps.toList.getLast?.getD 0) (fun j => letC (fi + j)) hb (fun i hi j hj e => by have := letC_inj (by omega) (by omega) e; omega) (fun i bag hi hb K hK => ?_) fun l bag' hb' hl => ?_
          · refine ⟨p26, let_len, _, let_ix fi i, ?_, hK _ bag hb (nameOk ?_ ?_ ?_) ?_⟩
            · exact Nat.le_trans (m := 100) (by rw [ht, h1]; show ys.length + 1 ≤ 100; omega) (by decide)
            · rw [app_len]; show 1 ≤ _ + 1; omega
            · rw [app_len, ht, h1]; show _ + 1 ≤ 12; omega
            · intro c h
              rw [app_list] at h
              rcases List.mem_append.mp h with h | h
              · obtain ⟨y, h2, h3⟩ := hc c h
                exact (hy y h2).2 c h3
              · simp at h
                rw [h]; exact letC_mem _
            · show (_ : Option Nat).getD 0 = _
              rw [app_list]
              simp
          · exact ⟨_, rfl, lt_ok, hnx _ ⟨l, bag', _, hl, hb', rfl⟩⟩
      · refine ⟨_, rfl, by omega, by omega, free_ok, ?_⟩
        refine lc_names (c7 := none) (fun x => x.cps.toList.headD 0) (fun j => letC (fi + j)) hb2 (fun i hi j hj e => by have := letC_inj (by omega) (by omega) e; omega) (fun i bag hi hb K hK => ?_) fun l bag' hb' hl => ?_
        · refine ⟨p26, let_len, _, let_ix fi i, 11, rfl, let_len, _, rfl, le_ok, _, rfl, 0, _, bag, _, rfl, rfl, rfl, _, _, rfl, rfl, by decide, by decide, hb, fun x hx bag' hb' => ?_⟩
          have hz : ∃ z : Str, x = .str z ∧ z.length ≤ 11 ∧ ∀ c ∈ z.cps.toList, c ∈ LET.cps.toList := by
            simp only [List.mem_cons, List.not_mem_nil, or_false] at hx
            rcases hx with rfl | rfl | rfl | rfl
            · exact ⟨_, rfl, by decide, by decide⟩
            · exact ⟨_, rfl, by decide, by decide⟩
            · exact ⟨_, rfl, by decide, by decide⟩
            · exact ⟨_, rfl, by decide +kernel, by decide +kernel⟩
          obtain ⟨z, rfl, hz1, hz2⟩ := hz
          refine ⟨Nat.le_trans (m := 100) (by show 1 + z.length ≤ 100; omega) (by decide), hK _ bag' hb' (nameOk ?_ ?_ ?_) ?_⟩
          · rw [app_len]; show 1 ≤ 1 + _; omega
          · rw [app_len]; show 1 + _ ≤ 12; omega
          · intro c h
            rw [app_list] at h
            rcases List.mem_append.mp h with h | h
            · simp at h
              rw [h]; exact letC_mem _
            · exact hz2 c h
          · show List.headD _ 0 = _
            rw [app_list]
            rfl
        · exact ⟨_, rfl, lt_ok, hnx _ ⟨l, bag', none, hl, hb', rfl⟩⟩
end
end SH
end P10
section P11
set_option Elab.async false
set_option linter.all false
set_option maxRecDepth 100000
set_option maxHeartbeats 4000000
/-! P11: the law's own words of leases, words, ways -/
namespace SH
open PySem PySem.Spec PyProof.Rows L2 DL SM
theorem mem_rsOf {rs : List Str} {s : Str} {i : Nat} : i ∈ rsOf rs s ↔ rs[i]? = some s := by
  unfold rsOf
  constructor
  · intro h
    obtain ⟨⟨t, j⟩, h3, h4⟩ := List.mem_map.mp h
    have h5 := List.mem_filter.mp h3
    have h6 := List.mem_zipIdx_iff_getElem?.mp h5.1
    have h4 : j = i := h4
    subst h4
    have h7 : t = s := of_decide_eq_true h5.2
    subst h7
    exact h6
  · intro h
    exact List.mem_map.mpr ⟨(s, i), List.mem_filter.mpr ⟨List.mem_zipIdx_iff_getElem?.mpr h, by simp⟩, rfl⟩
theorem rsOf_asc (rs : List Str) (s : Str) : (rsOf rs s).Pairwise (· < ·) := by
  have h1 : (rsOf rs s).Sublist (rs.zipIdx.map (·.2)) := List.filter_sublist.map _
  have h2 : rs.zipIdx.map (·.2) = List.range' 0 rs.length := by
    rw [List.zipIdx_map_snd]
  rw [h2] at h1
  exact List.Pairwise.sublist h1 List.pairwise_lt_range'
theorem head_least {l : List Nat} (h : l.Pairwise (· < ·)) {a : Nat} (ha : l.head? = some a) {b : Nat} (hb : b ∈ l) : a ≤ b := by
  cases l with
  | nil => cases ha
  | cons x l =>
    cases ha
    rcases List.mem_cons.mp hb with rfl | hb
    · exact Nat.le_refl _
    · exact Nat.le_of_lt ((List.pairwise_cons.mp h).1 b hb)
theorem endOf_least {rs : List Str} {l : Lease} {i : Nat} (h1 : l.2 ≤ i) (h2 : rs[i]? = some l.1) : endOf rs l ≤ i := by
  have hm : i ∈ (rsOf rs l.1).filter fun i => decide (l.2 ≤ i) := List.mem_filter.mpr ⟨mem_rsOf.mpr h2, by simpa using h1⟩
  unfold endOf
  cases e : (((rsOf rs l.1).filter fun i => decide (l.2 ≤ i)).head?) with
  | none =>
    rw [List.head?_eq_none_iff.mp e] at hm
    cases hm
  | some a => exact head_least ((rsOf_asc rs l.1).filter _) e hm
theorem endOf_first {rs : List Str} {l : Lease} {j : Nat} (h1 : l.2 ≤ j) (h2 : rs[j]? = some l.1) (h3 : ∀ i, i < j → ¬ (l.2 ≤ i ∧ rs[i]? = some l.1)) : endOf rs l = j := by
  have h4 := endOf_least h1 h2
  have h5 := (List.getElem?_eq_some_iff.mp h2).1
  have h6 := (endOf_le rs l).2 (by omega)
  by_cases h : endOf rs l < j
  · exact absurd h6 (h3 _ h)
  · omega
theorem endOf_none {rs : List Str} {l : Lease} (h3 : ∀ i, i < rs.length → ¬ (l.2 ≤ i ∧ rs[i]? = some l.1)) : endOf rs l = rs.length := by
  have h4 := (endOf_le rs l).1
  by_cases h : endOf rs l < rs.length
  · exact absurd ((endOf_le rs l).2 h) (h3 _ h)
  · omega
theorem enum_e (rs : List Str) : enumD (rs.map PyData.str) = (rs.zipIdx.map fun p => (p.2, p.1)).map fun x => .tuple [eN x.1, .str x.2] := by
  unfold enumD
  rw [List.zipIdx_map, List.map_map, List.map_map]
  rfl
section
variable {P : Program} {w : World} {K : PySem.W.Frag} {mg : Str → Option Value} {base : Heap}
abbrev F_law_end : Pr := fun ds R => ∃ (f : Flt) (x : Lease), ds = [.d (eFl f), .d (eLs x)] ∧ R (.d (eN (endOf f.rs x)))
theorem len_law_end : ∀ ds R, F_law_end ds R → ds.length = 2 := by
  rintro ds R ⟨f, x, rfl, _⟩; rfl
/-! _law_end: slots 0 _law_fleet_here, 1 _law_lease, 2 _law_service, 3 _law_begin, 4 _law_j, 5 _law_one -/
abbrev nm_law_end : List Str := ["_law_fleet_here", "_law_lease", "_law_service", "_law_begin", "_law_j", "_law_one"]
theorem sc_law_end : FnScope nm_law_end ["_law_fleet_here", "_law_lease"] (defScope (topS 58)) := ⟨rfl, rfl, rfl, by decide +kernel, rfl, by decide +kernel, by decide +kernel⟩
theorem ok_law_end {f : Addr} {fd : FuncData} {k : Nat} (F : Fun K "_law_end" "_law_end" (topS 58) f fd) (gx : mg "_law_end" = some (.ref f)) (b : Binds K fd ["_law_fleet_here", "_law_lease"] []) (M : Blt mg)  :
    Cal P w K mg base (k + 1) "_law_end" 2 F_law_end := by
  refine cal_of F gx b sc_law_end rfl len_law_end fun cdv A outer s H E hr => ⟨_, (dss_cons (ds_asg (de_var 1) (dg_pair (i := 2) (j := 3) rfl sc_law_end.nd rfl rfl (.inl rfl) (.inl rfl))) (dss_cons (ds_for PassesOwn.never rfl (di_enum rfl rfl M.enumerate (de_ix (de_var 0) de_int)) (dg_pair (i := 4) (j := 5) rfl sc_law_end.nd rfl rfl (.inl rfl) (.inl rfl)) (dss_one (ds_if (dt_w (dw_and (dt_cmp od_ge (de_var 4) (de_var 3)) (dw_and1 (dt_cmp (od_eq hr.hu) (de_var 5) (de_var 2))))) (dss_one (ds_ret (de_var 4))) dss_nil))) (dss_one (ds_ret (de_len rfl rfl M.len (da_cons (de_ix (de_var 0) de_int) da_nil)))))), ?_⟩
  rintro ds R ⟨fl, ⟨x, b⟩, rfl, q⟩
  refine ⟨_, rfl, _, _, rfl, lt_ok, lt_ok, _, rfl, _, rfl, ?_⟩
  rw [enum_e]
  refine for_inv (enc := fun x : Nat × Str => .tuple [eN x.1, .str x.2]) (fun i ρ => ∃ c d, (∀ j, j < i → ¬ (b ≤ j ∧ fl.rs[j]? = some x)) ∧ ρ = [some (.dat (.d (eFl fl))), some (.dat (.d (eLs (x, b)))), some (.dat (.d (.str x))), some (.dat (.d (eN b))), c, d]) ⟨none, none, fun j hj => absurd hj (Nat.not_lt_zero _), rfl⟩ ?_ ?_
  · rintro i ⟨i', s⟩ ρ hi ⟨c, d, hb, rfl⟩ nx hn
    rw [List.getElem?_map, List.getElem?_zipIdx] at hi
    cases e : fl.rs[i]? with
    | none => rw [e] at hi; cases hi
    | some s' =>
      rw [e] at hi
      have hi : (0 + i, s') = (i', s) := Option.some.inj hi
      rw [Nat.zero_add] at hi
      cases hi
      have go : ¬ (b ≤ i ∧ s = x) → ∀ j, j < i + 1 → ¬ (b ≤ j ∧ fl.rs[j]? = some x) := fun h j hj => by
        by_cases hji : j < i
        · exact hb j hji
        · obtain rfl : j = i := by omega
          rintro ⟨h1, h2⟩
          rw [e] at h2
          exact h ⟨h1, Option.some.inj h2⟩
      refine ⟨_, _, rfl, lt_ok, lt_ok, _, rfl, ifd (fun h1 => ?_) fun h1 => ?_⟩
      · refine ⟨Nat.zero_le 60, _, rfl, ife (okd_str.eq s x) (fun h2 => ?_) fun h2 => ?_⟩
        · subst h2
          exact ⟨_, _, rfl, rl (F := fun i => R (.d (eN i))) (endOf_first (l := (s, b)) (show b ≤ i by omega) e hb).symm q⟩
        · exact hn _ ⟨_, _, go fun h => h2 h.2, rfl⟩
      · exact hn _ ⟨_, _, go fun h => h1 (by omega), rfl⟩
  · rintro ρ ⟨c, d, hb, rfl⟩
    refine ⟨_, rfl, _, _, rfl, rl (F := fun i : Nat => R (.d (eN i))) ?_ q⟩
    rw [List.length_map, endOf_none (l := (x, b))]
    intro i hi
    exact hb i (by simpa using hi)
abbrev F_law_leases : Pr := fun ds R => ∃ f : Flt, ds = [.d (eFl f)] ∧ FlOk f ∧ R (.d (eL eLs (lsOf f.names f.rs)))
theorem len_law_leases : ∀ ds R, F_law_leases ds R → ds.length = 1 := by
  rintro ds R ⟨f, rfl, _⟩; rfl
/-! _law_leases: slots 0 _law_fleet_here, 1 _law_found, 2 _law_service, 3 _law_j -/
abbrev nm_law_leases : List Str := ["_law_fleet_here", "_law_found", "_law_service", "_law_j"]
theorem sc_law_leases : FnScope nm_law_leases ["_law_fleet_here"] (defScope (topS 59)) := ⟨rfl, rfl, rfl, by decide +kernel, rfl, by decide +kernel, by decide +kernel⟩
theorem ok_law_leases {f : Addr} {fd : FuncData} {k : Nat} (F : Fun K "_law_leases" "_law_leases" (topS 59) f fd) (gx : mg "_law_leases" = some (.ref f)) (b : Binds K fd ["_law_fleet_here"] []) (M : Blt mg)  :
    Cal P w K mg base (k + 1) "_law_leases" 1 F_law_leases := by
  refine cal_of F gx b sc_law_leases rfl len_law_leases fun cdv A outer s H E hr => ⟨_, (dss_cons (ds_setLc (i := 1) rfl sc_law_leases.nd rfl rfl (sw_true rfl rfl rfl (by decide +kernel)) (di_tup (de_ix (de_var 0) de_int)) (blkOk_by (own := [("_law_service", 2)]) (N := nm_law_leases) (sc := defScope (topS 59)) (by decide +kernel)) (fun _ _ _ _ _ => (dg_name (i := 2) sc_law_leases.nd rfl (.inl rfl))) (fun _ _ _ _ _ => dts_nil) (fun _ _ _ _ _ => (de_tup (da_cons (de_var 2) (da_cons de_int da_nil))))) (dss_one (ds_ret (de_sorted hr rfl rfl M.sorted (da_cons (de_op od_add (de_var 1) (de_lc rfl sc_law_leases.nd (di_enum rfl rfl M.enumerate (de_ix (de_var 0) de_int)) (blkOk_by (own := [("_law_j", 3), ("_law_service", 2)]) (N := nm_law_leases) (sc := defScope (topS 59)) (by decide +kernel)) (fun _ _ _ _ _ => (dg_pair (i := 3) (j := 2) rfl sc_law_leases.nd rfl rfl (.inl rfl) (.inl rfl))) (fun _ _ _ _ _ => dts_nil) (fun _ _ _ _ _ => (de_tup (da_cons (de_var 2) (da_cons (de_op od_add (de_var 3) de_int) da_nil)))))) da_nil))))), ?_⟩
  rintro ds R ⟨fl, rfl, hf, q⟩
  refine ⟨_, rfl, _, rfl, free_ok, ?_⟩
  refine lc_Nm (enc := .str) (encB := eLs) (fun s => (s, 0)) lt_ok rfl (fun s hs K h => ⟨_, rfl, le_ok, h⟩) ?_
  refine ⟨_, rfl, lt_ok, _, rfl, _, rfl, free_ok, ?_⟩
  rw [enum_e]
  refine lc_Pm (f := eN) (f2 := .str) (encB := eLs) (fun p => (p.2, p.1 + 1)) lt_ok lt_ok (by decide) rfl (fun p hp K h => ⟨_, rfl, le_ok, h⟩) ?_
  have hl1 := hf.nlen
  have hl2 := hf.rlen
  refine ⟨?_, ?_⟩
  · simp only [List.length_map, List.length_zipIdx]
    exact Nat.le_trans (m := 1000) (by omega) (by decide)
  · rw [← List.map_append]
    refine ⟨srt_ls _, _, _, rfl, ?_⟩
    rw [srtE_map]
    refine rl (F := fun l : List Lease => R (.d (.list (l.map eLs)))) ?_ q
    unfold lsOf rawLs
    rw [List.map_map]
    rfl
abbrev F_law_reduced : Pr := fun ds R => ∃ u : List Str, ds = [.d (eL .str u)] ∧ u.length ≤ 1000 ∧ R (.d (eW (red u)))
theorem len_law_reduced : ∀ ds R, F_law_reduced ds R → ds.length = 1 := by
  rintro ds R ⟨u, rfl, _⟩; rfl
/-! _law_reduced: slots 0 _law_word, 1 _law_found, 2 _law_service -/
abbrev nm_law_reduced : List Str := ["_law_word", "_law_found", "_law_service"]
theorem sc_law_reduced : FnScope nm_law_reduced ["_law_word"] (defScope (topS 62)) := ⟨rfl, rfl, rfl, by decide +kernel, rfl, by decide +kernel, by decide +kernel⟩
theorem ok_law_reduced {f : Addr} {fd : FuncData} {k : Nat} (F : Fun K "_law_reduced" "_law_reduced" (topS 62) f fd) (gx : mg "_law_reduced" = some (.ref f)) (b : Binds K fd ["_law_word"] []) (M : Blt mg)  :
    Cal P w K mg base (k + 1) "_law_reduced" 1 F_law_reduced := by
  refine cal_of F gx b sc_law_reduced rfl len_law_reduced fun cdv A outer s H E hr => ⟨_, (dss_cons (ds_set (i := 1) sc_law_reduced.nd rfl (.inl rfl) (de_lst da_nil)) (dss_cons (ds_for PassesOwn.never rfl (di_list (de_var 0)) (dg_name (i := 2) sc_law_reduced.nd rfl (.inl rfl)) (dss_one (ds_if (dt_w (dw_and (dt_cmp (od_ne hr.hu) (de_var 1) (de_lst da_nil)) (dw_and1 (dt_cmp (od_eq hr.hu) (de_ix (de_var 1) (de_neg de_int)) (de_var 2))))) (dss_one (ds_expr (de_pop rfl (de_var 1)))) (dss_one (ds_expr (de_append rfl (de_var 1) (da_cons (de_var 2) da_nil))))))) (dss_one (ds_ret (de_tupc rfl rfl M.tuple (da_cons (de_var 1) da_nil)))))), ?_⟩
  rintro ds R ⟨u, rfl, hu, q⟩
  refine ⟨_, rfl, le_ok, _, rfl, lt_ok, _, rfl, for_inv (fun i ρ => ∃ c l, l = (red (u.take i)).map .str ∧ ρ = [some (.dat (.d (eL .str u))), some (.lst l), c]) ⟨_, _, rfl, rfl⟩ ?_ ?_⟩
  · rintro i a ρ hi ⟨c, _, rfl, rfl⟩ nx hn
    have ht : u.take (i + 1) = u.take i ++ [a] := by rw [List.take_succ, hi]; rfl
    have hr1 : red (u.take (i + 1)) = push (red (u.take i)) a := by rw [ht]; unfold red; rw [List.foldl_append]; rfl
    have hl : (red (u.take i)).length ≤ 1000 := Nat.le_trans (red_len _) (by rw [List.length_take]; omega)
    generalize he : red (u.take i) = f at hr1 hl
    refine ⟨lt_ok, _, rfl, le_ok, Nat.le_trans (Nat.min_le_right _ _) (by decide), _, rfl, ife ((okd_L okd_str).ne f []) (fun h => ?_) fun h => ?_⟩
    · obtain ⟨z, hz⟩ : ∃ z, f.getLast? = some z := by
        cases e : f.getLast? with
        | none => exact absurd (List.getLast?_eq_none_iff.mp e) h
        | some z => exact ⟨z, rfl⟩
      refine ⟨_, rfl, _, atI_end hz, Nat.zero_le 60, _, rfl, ife (okd_str.eq _ _) (fun he => ?_) fun he => ?_⟩
      · have hd : (f.map PyData.str).getLast? = some (.str z) := by rw [List.getLast?_map, hz]; rfl
        refine ⟨_, _, rfl, rfl, _, by rw [← List.getLast?_eq_getElem?]; exact hd, hn _ ⟨_, _, ?_, rfl⟩⟩
        rw [hr1, push, if_pos (by rw [hz, he]), ← List.map_dropLast]
      · refine ⟨_, _, rfl, _, rfl, _, rfl, by rw [List.length_map]; exact Nat.lt_of_le_of_lt hl (by decide), hn _ ⟨_, _, ?_, rfl⟩⟩
        rw [hr1, push, if_neg (by rw [hz]; exact fun e => he (Option.some.inj e)), List.map_append]; rfl
    · have h0 : f = [] := Classical.not_not.mp h
      refine ⟨_, _, rfl, _, rfl, _, rfl, by rw [List.length_map]; exact Nat.lt_of_le_of_lt hl (by decide), hn _ ⟨_, _, ?_, rfl⟩⟩
      rw [hr1, push, if_neg (by rw [h0]; simp), List.map_append]; rfl
  · rintro ρ ⟨c, _, rfl, rfl⟩
    rw [List.take_length]
    exact ⟨_, _, rfl, q⟩
theorem filt_step {n : Nat} {p : List Nat} (hp : PlanOk n p) (k : Nat) : (p.filter fun i => decide (i < k + 1)) = (p.filter fun i => decide (i < k)) ++ (if k ∈ p then [k] else []) := by
  refine PlanOk.ext (n := n) ⟨hp.1.filter _, fun h hh => hp.2 h (List.mem_filter.mp hh).1⟩ ⟨?_, fun h hh => ?_⟩ fun i => ?_
  · rw [List.pairwise_append]
    refine ⟨hp.1.filter _, by split <;> simp, fun a ha b hb => ?_⟩
    split at hb
    · have := of_decide_eq_true (List.mem_filter.mp ha).2
      simp at hb
      omega
    · cases hb
  · rcases List.mem_append.mp hh with h1 | h1
    · exact hp.2 h (List.mem_filter.mp h1).1
    · split at h1
      · simp at h1
        subst h1
        exact hp.2 _ (by assumption)
      · cases h1
  · simp only [List.mem_filter, List.mem_append, decide_eq_true_eq]
    split
    · rename_i hk
      simp only [List.mem_singleton]
      constructor
      · rintro ⟨h1, h2⟩
        by_cases h : i = k
        · exact .inr h
        · exact .inl ⟨h1, by omega⟩
      · rintro (⟨h1, h2⟩ | rfl)
        · exact ⟨h1, by omega⟩
        · exact ⟨hk, by omega⟩
    · rename_i hk
      simp only [List.not_mem_nil, or_false]
      constructor
      · rintro ⟨h1, h2⟩
        refine ⟨h1, ?_⟩
        have : i ≠ k := fun e => hk (e ▸ h1)
        omega
      · rintro ⟨h1, h2⟩
        exact ⟨h1, by omega⟩
theorem vx_red {rs : List Str} {p : List Nat} (hp : PlanOk rs.length p) : ∀ k, red ((p.filter fun i => decide (i < k)).map fun i => rs[i]?.getD ("" : Str)) = vx rs p k
  | 0 => by
    have : (p.filter fun i => decide (i < 0)) = [] := by simp
    rw [this]; rfl
  | k + 1 => by
    have ih := vx_red hp k
    rw [filt_step hp, List.map_append]
    unfold red at ih ⊢
    rw [List.foldl_append, ih]
    by_cases h : k ∈ p
    · rw [if_pos h]
      have hk := hp.2 k h
      have e : rs[k]? = some rs[k] := List.getElem?_eq_getElem hk
      rw [vx_step e, if_pos h]
      show push _ (rs[k]?.getD ("" : Str)) = _
      rw [e]; rfl
    · rw [if_neg h]
      show vx rs p k = _
      rw [vx]
      split
      · rw [if_neg h]
      · rfl
abbrev F_law_vertex : Pr := fun ds R => ∃ (f : Flt) (p : List Nat) (k : Nat), ds = [.d (eFl f), .d (eP p), .d (eN k)] ∧ f.rs.length ≤ 100 ∧ PlanOk f.rs.length p ∧ R (.d (eW (vx f.rs p k)))
theorem len_law_vertex : ∀ ds R, F_law_vertex ds R → ds.length = 3 := by
  rintro ds R ⟨f, p, k, rfl, _⟩; rfl
/-! _law_vertex: slots 0 _law_fleet_here, 1 _law_plan_here, 2 _law_stretch, 3 _law_j -/
abbrev nm_law_vertex : List Str := ["_law_fleet_here", "_law_plan_here", "_law_stretch", "_law_j"]
theorem sc_law_vertex : FnScope nm_law_vertex ["_law_fleet_here", "_law_plan_here", "_law_stretch"] (defScope (topS 63)) := ⟨rfl, rfl, rfl, by decide +kernel, rfl, by decide +kernel, by decide +kernel⟩
theorem ok_law_vertex {f : Addr} {fd : FuncData} {k : Nat} (F : Fun K "_law_vertex" "_law_vertex" (topS 63) f fd) (gx : mg "_law_vertex" = some (.ref f)) (b : Binds K fd ["_law_fleet_here", "_law_plan_here", "_law_stretch"] []) (M : Blt mg) (C_law_reduced : Cal P w K mg base k "_law_reduced" 1 F_law_reduced) :
    Cal P w K mg base (k + 1) "_law_vertex" 3 F_law_vertex := by
  refine cal_of F gx b sc_law_vertex rfl len_law_vertex fun cdv A outer s H E hr => ⟨_, (dss_one (ds_ret (de_fn C_law_reduced hr (Nat.le_refl _) rfl (da_cons (de_frz (de_lc rfl sc_law_vertex.nd (di_tup (de_var 1)) (blkOk_by (own := [("_law_j", 3)]) (N := nm_law_vertex) (sc := defScope (topS 63)) (by decide +kernel)) (fun _ _ _ _ _ => (dg_name (i := 3) sc_law_vertex.nd rfl (.inl rfl))) (fun _ _ _ _ _ => (dts_one (dt_cmp od_lt (de_var 3) (de_var 2)))) (fun _ _ _ _ _ => (de_ix (de_ix (de_var 0) de_int) (de_var 3))))) da_nil)))), ?_⟩
  rintro ds R ⟨fl, p, k, rfl, hr, hp, q⟩
  refine ⟨_, rfl, free_ok, ?_⟩
  refine lc_N (enc := eN) (encB := .str) (fun i => decide (i < k)) (fun i => fl.rs[i]?.getD ("" : Str)) lt_ok rfl (fun i hi K h => ?_) (fun i hi e K h => ?_) ?_
  · exact ⟨_, rfl, rb (F := fun b => K b _) (decide_eq_decide.mpr (by omega)) h⟩
  · have hk := hp.2 i hi
    have e : fl.rs[i]? = some fl.rs[i] := List.getElem?_eq_getElem hk
    rw [e] at h
    exact ⟨_, rfl, _, atI_map e, h⟩
  · refine ⟨_, rfl, _, rfl, _, rfl, ?_, _, _, rfl, rl (F := fun l => R (.d (eW l))) (vx_red hp k) q⟩
    rw [List.length_map]
    refine Nat.le_trans (List.length_filter_le _ _) ?_
    have := hp.len
    omega
abbrev F_law_way : Pr := fun ds R => ∃ (u v : List Str), ds = [.d (eW u), .d (eW v)] ∧ u.length ≤ 1000 ∧ v.length ≤ 1000 ∧ R (.d (eL eEdge (way u v)))
theorem len_law_way : ∀ ds R, F_law_way ds R → ds.length = 2 := by
  rintro ds R ⟨u, v, rfl, _⟩; rfl
/-! _law_way: slots 0 _law_one, 1 _law_other, 2 _law_same, 3 _law_back, 4 _law_at -/
abbrev nm_law_way : List Str := ["_law_one", "_law_other", "_law_same", "_law_back", "_law_at"]
theorem sc_law_way : FnScope nm_law_way ["_law_one", "_law_other"] (defScope (topS 64)) := ⟨rfl, rfl, rfl, by decide +kernel, rfl, by decide +kernel, by decide +kernel⟩
theorem ok_law_way {f : Addr} {fd : FuncData} {k : Nat} (F : Fun K "_law_way" "_law_way" (topS 64) f fd) (gx : mg "_law_way" = some (.ref f)) (b : Binds K fd ["_law_one", "_law_other"] []) (M : Blt mg)  :
    Cal P w K mg base (k + 1) "_law_way" 2 F_law_way := by
  refine cal_of F gx b sc_law_way rfl len_law_way fun cdv A outer s H E hr => ⟨_, (dss_cons (ds_set (i := 2) sc_law_way.nd rfl (.inl rfl) de_int) (dss_cons (ds_while PassesOwn.never (dt_w (dw_and (dt_cmp od_lt (de_var 2) (de_min rfl rfl rfl M.min (da_cons (de_len rfl rfl M.len (da_cons (de_var 0) da_nil)) (da_cons (de_len rfl rfl M.len (da_cons (de_var 1) da_nil)) da_nil)))) (dw_and1 (dt_cmp (od_eq hr.hu) (de_ix (de_var 0) (de_var 2)) (de_ix (de_var 1) (de_var 2)))))) (dss_one (ds_augAdd (i := 2) sc_law_way.nd rfl (.inl rfl) de_int))) (dss_cons (ds_setLc (i := 3) rfl sc_law_way.nd rfl rfl (sw_true rfl rfl rfl (by decide +kernel)) (di_range3 rfl rfl M.range (da_cons (de_op od_sub (de_len rfl rfl M.len (da_cons (de_var 0) da_nil)) de_int) (da_cons (de_op od_sub (de_var 2) de_int) (da_cons (de_neg de_int) da_nil)))) (blkOk_by (own := [("_law_at", 4)]) (N := nm_law_way) (sc := defScope (topS 64)) (by decide +kernel)) (fun _ _ _ _ _ => (dg_name (i := 4) sc_law_way.nd rfl (.inl rfl))) (fun _ _ _ _ _ => dts_nil) (fun _ _ _ _ _ => (de_tup (da_cons (de_sl (de_var 0) do_no (do_yes (de_var 4))) (da_cons (de_ix (de_var 0) (de_var 4)) da_nil))))) (dss_one (ds_ret (de_op od_add (de_var 3) (de_lc rfl sc_law_way.nd (di_range2 rfl rfl M.range (da_cons (de_var 2) (da_cons (de_len rfl rfl M.len (da_cons (de_var 1) da_nil)) da_nil))) (blkOk_by (own := [("_law_at", 4)]) (N := nm_law_way) (sc := defScope (topS 64)) (by decide +kernel)) (fun _ _ _ _ _ => (dg_name (i := 4) sc_law_way.nd rfl (.inl rfl))) (fun _ _ _ _ _ => dts_nil) (fun _ _ _ _ _ => (de_tup (da_cons (de_sl (de_var 1) do_no (do_yes (de_var 4))) (da_cons (de_ix (de_var 1) (de_var 4)) da_nil))))))))))), ?_⟩
  rintro ds R ⟨u, v, rfl, hu, hv, q⟩
  have l1 := clen_le1 u v
  have l2 := clen_le2 u v
  refine ⟨_, rfl, lt_ok, ?_⟩
  dsimp only
  refine seq_mid (fun ρ => ρ = [some (.dat (.d (eW u))), some (.dat (.d (eW v))), some (.dat (.d (eN (clen u v)))), none, none]) ?_ fun nx hnx => ?_
  · rintro ρ rfl
    refine ⟨True.intro, True.intro, _, rfl, _, _, rfl, ?_⟩
    rw [List.length_map]
    dsimp only
    have e1 : ((u.length : Int) - 1 - ((clen u v : Int) - 1)).toNat = u.length - clen u v := by omega
    rw [e1]
    refine ⟨by omega, by omega, by omega, by omega, free_ok, ?_⟩
    refine lc_Nm (encB := eEdge) (fun k => (u.take (u.length - 1 - k), u.getD (u.length - 1 - k) default)) lt_ok rfl (fun k hk K h => ?_) ?_
    · have hk := List.mem_range.mp hk
      have e2 : (u.length : Int) - 1 - (k : Int) = ((u.length - 1 - k : Nat) : Int) := by omega
      have l3 : u.length - 1 - k < u.length := by omega
      have gA := atI_map (f := PyData.str) (List.getElem?_eq_getElem l3)
      have gC := cut_to (u.map PyData.str) (u.length - 1 - k)
      have gE : u.getD (u.length - 1 - k) default = u[u.length - 1 - k] := by rw [List.getD_eq_getElem?_getD, List.getElem?_eq_getElem l3]; rfl
      rw [← e2, ← List.map_take] at gC
      rw [← e2] at gA
      refine ⟨_, rfl, _, gA, _, rfl, le_ok, ?_⟩
      rw [gC, ← gE]
      exact h
    rw [up_eq u _ _ l1]
    refine ⟨_, rfl, lt_ok, _, _, rfl, ?_⟩
    rw [List.length_map]
    have e3 : ((v.length : Int) - (clen u v : Int)).toNat = v.length - clen u v := by omega
    rw [e3]
    refine ⟨by omega, by omega, by omega, by omega, free_ok, ?_⟩
    refine lc_Nm (encB := eEdge) (fun k => (v.take (clen u v + k), v.getD (clen u v + k) default)) lt_ok rfl (fun k hk K h => ?_) ?_
    · have hk := List.mem_range.mp hk
      have e2 : (clen u v : Int) + (k : Int) = ((clen u v + k : Nat) : Int) := by omega
      have l3 : clen u v + k < v.length := by omega
      have gA := atI_map (f := PyData.str) (List.getElem?_eq_getElem l3)
      have gC := cut_to (v.map PyData.str) (clen u v + k)
      have gE : v.getD (clen u v + k) default = v[clen u v + k] := by rw [List.getD_eq_getElem?_getD, List.getElem?_eq_getElem l3]; rfl
      rw [← e2, ← List.map_take] at gC
      rw [← e2] at gA
      refine ⟨_, rfl, _, gA, _, rfl, le_ok, ?_⟩
      rw [gC, ← gE]
      exact h
    rw [down_eq v _ _ l2]
    refine ⟨?_, _, _, rfl, ?_⟩
    · rw [List.length_map, List.length_map, List.length_reverse, edg_len, edg_len, List.length_drop, List.length_drop]
      exact Nat.le_trans (m := 2000) (by omega) (by decide)
    · rw [← List.map_append]
      exact q
  · refine ⟨fun m ρ => ∃ k : Nat, k ≤ clen u v ∧ m = clen u v - k ∧ ρ = [some (.dat (.d (eW u))), some (.dat (.d (eW v))), some (.dat (.d (eN k))), none, none], ⟨_, 0, Nat.zero_le _, rfl, rfl⟩, ?_⟩
    rintro m ρ ⟨k, hk, rfl, rfl⟩
    refine ⟨_, rfl, ifd (fun h => ?_) fun h => ?_⟩
    · have h1 : k < u.length ∧ k < v.length := by
        simp only [List.length_map] at h
        split at h <;> omega
      have e1 := List.getElem?_eq_getElem h1.1
      have e2 := List.getElem?_eq_getElem h1.2
      refine ⟨_, atI_map e1, _, atI_map e2, Nat.zero_le 60, _, rfl, ife (okd_str.eq _ _) (fun he => ?_) fun he => ?_⟩
      · have hlt : k < clen u v := by
          rcases Nat.lt_or_eq_of_le hk with h2 | h2
          · exact h2
          · subst h2; exact absurd he (clen_end u v _ _ e1 e2)
        exact ⟨_, rfl, _, rfl, lt_ok, _, by omega, k + 1, by omega, rfl, rfl⟩
      · have hge : k = clen u v := by
          rcases Nat.lt_or_eq_of_le hk with h2 | h2
          · obtain ⟨a, q1, q2⟩ := clen_lt u v k h2
            rw [e1] at q1; rw [e2] at q2; cases q1
            exact absurd (Option.some.inj q2).symm he
          · exact h2
        subst hge
        exact hnx _ rfl
    · have hge : k = clen u v := by
        simp only [List.length_map] at h
        split at h <;> omega
      subst hge
      exact hnx _ rfl
abbrev F_law_apart : Pr := fun ds R => ∃ (f : Flt) (p q : List Nat) (l : Lease), ds = [.d (eFl f), .d (eP p), .d (eP q), .d (eLs l)] ∧ f.rs.length ≤ 100 ∧ l.2 ≤ f.rs.length ∧ PlanOk f.rs.length p ∧ PlanOk f.rs.length q ∧ R (.d (eN (apn f.rs p q l)))
theorem len_law_apart : ∀ ds R, F_law_apart ds R → ds.length = 4 := by
  rintro ds R ⟨f, p, q, l, rfl, _⟩; rfl
/-! _law_apart: slots 0 _law_fleet_here, 1 _law_one, 2 _law_other, 3 _law_lease, 4 _law_way_here, 5 _law_word, 6 _law_service -/
abbrev nm_law_apart : List Str := ["_law_fleet_here", "_law_one", "_law_other", "_law_lease", "_law_way_here", "_law_word", "_law_service"]
theorem sc_law_apart : FnScope nm_law_apart ["_law_fleet_here", "_law_one", "_law_other", "_law_lease"] (defScope (topS 65)) := ⟨rfl, rfl, rfl, by decide +kernel, rfl, by decide +kernel, by decide +kernel⟩
theorem ok_law_apart {f : Addr} {fd : FuncData} {k : Nat} (F : Fun K "_law_apart" "_law_apart" (topS 65) f fd) (gx : mg "_law_apart" = some (.ref f)) (b : Binds K fd ["_law_fleet_here", "_law_one", "_law_other", "_law_lease"] []) (M : Blt mg) (C_law_vertex : Cal P w K mg base k "_law_vertex" 3 F_law_vertex) (C_law_way : Cal P w K mg base k "_law_way" 2 F_law_way) :
    Cal P w K mg base (k + 1) "_law_apart" 4 F_law_apart := by
  refine cal_of F gx b sc_law_apart rfl len_law_apart fun cdv A outer s H E hr => ⟨_, (dss_cons (ds_set (i := 4) sc_law_apart.nd rfl (.inl rfl) (de_fn C_law_way hr (Nat.le_refl _) rfl (da_cons (de_fn C_law_vertex hr (Nat.le_refl _) rfl (da_cons (de_var 0) (da_cons (de_var 1) (da_cons (de_ix (de_var 3) de_int) da_nil)))) (da_cons (de_fn C_law_vertex hr (Nat.le_refl _) rfl (da_cons (de_var 0) (da_cons (de_var 2) (da_cons (de_ix (de_var 3) de_int) da_nil)))) da_nil)))) (dss_one (ds_ret (de_len rfl rfl M.len (da_cons (de_lc rfl sc_law_apart.nd (di_list (de_var 4)) (blkOk_by (own := [("_law_word", 5), ("_law_service", 6)]) (N := nm_law_apart) (sc := defScope (topS 65)) (by decide +kernel)) (fun _ _ _ _ _ => (dg_pair (i := 5) (j := 6) rfl sc_law_apart.nd rfl rfl (.inl rfl) (.inl rfl))) (fun _ _ _ _ _ => (dts_one (dt_cmp (od_eq hr.hu) (de_var 6) (de_ix (de_var 3) de_int)))) (fun _ _ _ _ _ => de_int)) da_nil))))), ?_⟩
  rintro ds R ⟨fl, p, q, ⟨x, b⟩, rfl, hr, hl, hp, hq, h⟩
  have t1 := vx_len fl.rs p b
  have t2 := vx_len fl.rs q b
  have hl : b ≤ fl.rs.length := hl
  refine ⟨_, rfl, _, rfl, fl, p, b, rfl, hr, hp, _, rfl, _, rfl, fl, q, b, rfl, hr, hq, _, rfl, _, _, rfl, by omega, by omega, _, rfl, lt_ok, ?_⟩
  refine ⟨_, rfl, free_ok, ?_⟩
  refine lc_P (f := eW) (f2 := .str) (encB := fun _ : Unit => .int 1) (xs := way (vx fl.rs p b) (vx fl.rs q b)) (fun e => decide (e.2 = x)) (fun _ => ()) lt_ok lt_ok (by decide) rfl (fun e he K h => ?_) (fun e he _ K h => h) ?_
  · exact ⟨_, rfl, Nat.zero_le 60, _, rfl, rb (F := fun b => K b _) (okd_str.eq e.2 x) h⟩
  · refine ⟨_, _, rfl, rl (F := fun i : Nat => R (.d (eN i))) ?_ h⟩
    rw [List.length_map, List.length_map]
    rfl
abbrev F_law_exchanged : Pr := fun ds R => ∃ (f : Flt) (p : List Nat) (l : Lease), ds = [.d (eFl f), .d (eP p), .d (eLs l)] ∧ f.rs.length ≤ 100 ∧ p.length ≤ 1000 ∧ l.2 ≠ 0 ∧ R (.d (eP (edt f.rs p l)))
theorem len_law_exchanged : ∀ ds R, F_law_exchanged ds R → ds.length = 3 := by
  rintro ds R ⟨f, p, l, rfl, _⟩; rfl
/-! _law_exchanged: slots 0 _law_fleet_here, 1 _law_plan_here, 2 _law_lease, 3 _law_end_here, 4 _law_ends, 5 _law_j -/
abbrev nm_law_exchanged : List Str := ["_law_fleet_here", "_law_plan_here", "_law_lease", "_law_end_here", "_law_ends", "_law_j"]
theorem sc_law_exchanged : FnScope nm_law_exchanged ["_law_fleet_here", "_law_plan_here", "_law_lease"] (defScope (topS 72)) := ⟨rfl, rfl, rfl, by decide +kernel, rfl, by decide +kernel, by decide +kernel⟩
theorem ok_law_exchanged {f : Addr} {fd : FuncData} {k : Nat} (F : Fun K "_law_exchanged" "_law_exchanged" (topS 72) f fd) (gx : mg "_law_exchanged" = some (.ref f)) (b : Binds K fd ["_law_fleet_here", "_law_plan_here", "_law_lease"] []) (M : Blt mg) (C_law_end : Cal P w K mg base k "_law_end" 2 F_law_end) :
    Cal P w K mg base (k + 1) "_law_exchanged" 3 F_law_exchanged := by
  refine cal_of F gx b sc_law_exchanged rfl len_law_exchanged fun cdv A outer s H E hr => ⟨_, (dss_cons (ds_set (i := 3) sc_law_exchanged.nd rfl (.inl rfl) (de_fn C_law_end hr (Nat.le_refl _) rfl (da_cons (de_var 0) (da_cons (de_var 2) da_nil)))) (dss_cons (ds_set (i := 4) sc_law_exchanged.nd rfl (.inr rfl) (de_op od_add (de_lst (da_cons (de_op od_sub (de_ix (de_var 2) de_int) de_int) da_nil)) (de_op od_rep (de_lst (da_cons (de_var 3) da_nil)) (de_intc rfl rfl M.int (da_cons (de_cmp od_lt (de_var 3) (de_len rfl rfl M.len (da_cons (de_ix (de_var 0) de_int) da_nil))) da_nil))))) (dss_lock (i := 4) (dss_one (ds_ret (de_tupc rfl rfl M.tuple (da_cons (de_sorted hr rfl rfl M.sorted (da_cons (de_op od_add (de_lc rfl sc_law_exchanged.nd (di_tup (de_var 1)) (blkOk_by (own := [("_law_j", 5)]) (N := nm_law_exchanged) (sc := defScope (topS 72)) (by decide +kernel)) (fun _ _ _ _ _ => (dg_name (i := 5) sc_law_exchanged.nd rfl (.inl rfl))) (fun _ _ _ _ _ => (dts_one (dt_cmp (od_notin hr.hu) (de_var 5) (de_var 4)))) (fun _ _ _ _ _ => (de_var 5))) (de_lc rfl sc_law_exchanged.nd (di_list (de_var 4)) (blkOk_by (own := [("_law_j", 5)]) (N := nm_law_exchanged) (sc := defScope (topS 72)) (by decide +kernel)) (fun _ _ _ _ _ => (dg_name (i := 5) sc_law_exchanged.nd rfl (.inl rfl))) (fun _ _ _ _ _ => (dts_one (dt_cmp (od_notin hr.hu) (de_var 5) (de_var 1)))) (fun _ _ _ _ _ => (de_var 5)))) da_nil)) da_nil))))))), ?_⟩
  rintro ds R ⟨fl, p, ⟨x, b⟩, rfl, hf, hp, h0, q⟩
  have h0 : b ≠ 0 := h0
  have e : (b : Int) - 1 = ((b - 1 : Nat) : Int) := by omega
  refine ⟨_, rfl, fl, (x, b), rfl, _, rfl, lt_ok, ?_⟩
  dsimp only
  refine seq_mid (fun ρ => ρ = [some (.dat (.d (eFl fl))), some (.dat (.d (eP p))), some (.dat (.d (eLs (x, b)))), some (.dat (.d (eN (endOf fl.rs (x, b))))), some (.lst ((turned fl.rs (x, b)).map eN)), none]) ?_ fun nx hn => ?_
  · rintro ρ rfl
    generalize hT : turned fl.rs (x, b) = T
    have hT2 : T.length ≤ 2 := by rw [← hT]; unfold turned; split <;> simp
    refine ⟨_, _, rfl, rfl, rfl, _, rfl, free_ok, ?_⟩
    refine lc_N (enc := eN) (encB := eN) (fun h => decide (h ∉ T)) id lt_ok rfl (fun i hi K h => ?_) (fun i hi e K h => h) ?_
    · refine ⟨Nat.zero_le 60, _, rfl, rb (F := fun b => K b _) (p := i ∉ T) ?_ h⟩
      rw [decide_not, ← any_e okd_nat]
      rfl
    rw [List.map_id]
    refine ⟨_, rfl, free_ok, ?_⟩
    refine lc_N (enc := eN) (encB := eN) (fun h => decide (h ∉ p)) id lt_ok rfl (fun i hi K h => ?_) (fun i hi e K h => h) ?_
    · refine ⟨Nat.zero_le 60, _, rfl, rb (F := fun b => K b _) (p := i ∉ p) ?_ h⟩
      rw [decide_not, ← any_e okd_nat]
      rfl
    rw [List.map_id]
    refine ⟨?_, ?_⟩
    · have h1 := List.length_filter_le (fun h => decide (h ∉ T)) p
      have h2 := List.length_filter_le (fun h => decide (h ∉ p)) T
      simp only [List.length_map]
      exact Nat.le_trans (m := 2000) (by omega) (by decide)
    · rw [← List.map_append]
      refine ⟨srt_nat _, _, _, rfl, ?_⟩
      rw [srtE_map]
      unfold edt at q
      rw [hT] at q
      exact q
  · unfold turned at hn
    refine ⟨_, rfl, True.intro, _, rfl, ?_⟩
    refine ⟨le_ok, _, rfl, le_ok, _, rfl, ?_⟩
    by_cases c : endOf fl.rs (x, b) < fl.rs.length
    · have hb : (if decide (((endOf fl.rs (x, b) : Nat) : Int) < ((List.map PyData.str fl.rs).length : Nat)) = true then (1 : Int) else 0) = 1 := by
        rw [List.length_map, if_pos (decide_eq_true (by omega))]
      rw [if_pos c] at hn
      refine ⟨rl (F := fun j : Int => -(2 ^ 63) ≤ j) hb (by decide), rl (F := fun j : Int => j < 2 ^ 63) hb (by decide), rl (F := fun j : Int => 1 * j.toNat ≤ sizeLine) hb le_ok, rl (F := fun j : Int => 1 + (List.replicate j.toNat [eN (endOf fl.rs (x, b))]).flatten.length ≤ sizeLine) hb le_ok, _, rfl, lt_ok, hn _ ?_⟩
      exact congrArg (f := fun l : List PyData => ([some (.dat (.d (eFl fl))), some (.dat (.d (eP p))), some (.dat (.d (eLs (x, b)))), some (.dat (.d (eN (endOf fl.rs (x, b))))), some (.lst l), none] : Sv)) (a₁ := [.int ((b : Int) - 1)] ++ (List.replicate (if decide (((endOf fl.rs (x, b) : Nat) : Int) < ((List.map PyData.str fl.rs).length : Nat)) = true then (1 : Int) else 0).toNat [eN (endOf fl.rs (x, b))]).flatten) (by rw [hb, e])
    · have hb : (if decide (((endOf fl.rs (x, b) : Nat) : Int) < ((List.map PyData.str fl.rs).length : Nat)) = true then (1 : Int) else 0) = 0 := by
        rw [List.length_map, if_neg (by simpa using c)]
      rw [if_neg c] at hn
      refine ⟨rl (F := fun j : Int => -(2 ^ 63) ≤ j) hb (by decide), rl (F := fun j : Int => j < 2 ^ 63) hb (by decide), rl (F := fun j : Int => 1 * j.toNat ≤ sizeLine) hb le_ok, rl (F := fun j : Int => 1 + (List.replicate j.toNat [eN (endOf fl.rs (x, b))]).flatten.length ≤ sizeLine) hb le_ok, _, rfl, lt_ok, hn _ ?_⟩
      exact congrArg (f := fun l : List PyData => ([some (.dat (.d (eFl fl))), some (.dat (.d (eP p))), some (.dat (.d (eLs (x, b)))), some (.dat (.d (eN (endOf fl.rs (x, b))))), some (.lst l), none] : Sv)) (a₁ := [.int ((b : Int) - 1)] ++ (List.replicate (if decide (((endOf fl.rs (x, b) : Nat) : Int) < ((List.map PyData.str fl.rs).length : Nat)) = true then (1 : Int) else 0).toNat [eN (endOf fl.rs (x, b))]).flatten) (by rw [hb, e])
end
end SH
end P11
section P12
set_option Elab.async false
set_option linter.all false
set_option maxRecDepth 100000
set_option maxHeartbeats 4000000
/-! P12: all plans; what is drawn: fleet, plan, pins -/
namespace SH
open PySem PySem.Spec PyProof.Rows L2 DL SM
/-- all plans of so many restarts, as they are found -/
def plans : Nat → List (List Nat)
  | 0 => [[]]
  | j + 1 => plans j ++ (plans j).map (· ++ [j])
theorem plans_len : ∀ n, (plans n).length = 2 ^ n
  | 0 => rfl
  | n + 1 => by rw [plans, List.length_append, List.length_map, plans_len n, Nat.pow_succ]; omega
theorem plans_ok : ∀ n, ∀ p ∈ plans n, PlanOk n p
  | 0, p, h => by
    simp only [plans, List.mem_singleton] at h
    subst h
    exact PlanOk.nil 0
  | n + 1, p, h => by
    rw [plans] at h
    rcases List.mem_append.mp h with h | h
    · have := plans_ok n p h
      exact ⟨this.1, fun i hi => Nat.lt_succ_of_lt (this.2 i hi)⟩
    · obtain ⟨q, hq, rfl⟩ := List.mem_map.mp h
      have := plans_ok n q hq
      refine ⟨List.pairwise_append.mpr ⟨this.1, by simp, fun a ha b hb => ?_⟩, fun i hi => ?_⟩
      · simp only [List.mem_singleton] at hb
        subst hb
        exact this.2 a ha
      · rcases List.mem_append.mp hi with hi | hi
        · exact Nat.lt_succ_of_lt (this.2 i hi)
        · simp only [List.mem_singleton] at hi
          omega
theorem rg_e (n : Nat) : rgFrom 0 ((n : Nat) : Int).toNat = (List.range n).map eN := by
  rw [Int.toNat_natCast]
  unfold rgFrom
  simp [eN]
theorem rg_at {n i x : Nat} (h : (List.range n)[i]? = some x) : i < n ∧ x = i := by
  obtain ⟨hin, e⟩ := List.getElem?_eq_some_iff.mp h
  rw [List.getElem_range] at e
  rw [List.length_range] at hin
  exact ⟨hin, e.symm⟩
section
variable {P : Program} {w : World} {K : PySem.W.Frag} {mg : Str → Option Value} {base : Heap}
abbrev F_law_all_plans : Pr := fun ds R => ∃ (f : Flt), ds = [.d (eFl f)] ∧ f.rs.length ≤ 10 ∧ R (.d (eL eP (srtE eP (plans f.rs.length))))
theorem len_law_all_plans : ∀ ds R, F_law_all_plans ds R → ds.length = 1 := by
  rintro ds R ⟨f, rfl, _⟩; rfl
/-! _law_all_plans: slots 0 _law_fleet_here, 1 _law_found, 2 _law_j, 3 _law_plan_here -/
abbrev nm_law_all_plans : List Str := ["_law_fleet_here", "_law_found", "_law_j", "_law_plan_here"]
theorem sc_law_all_plans : FnScope nm_law_all_plans ["_law_fleet_here"] (defScope (topS 68)) := ⟨rfl, rfl, rfl, by decide +kernel, rfl, by decide +kernel, by decide +kernel⟩
theorem ok_law_all_plans {f : Addr} {fd : FuncData} {k : Nat} (F : Fun K "_law_all_plans" "_law_all_plans" (topS 68) f fd) (gx : mg "_law_all_plans" = some (.ref f)) (b : Binds K fd ["_law_fleet_here"] []) (M : Blt mg)  :
    Cal P w K mg base (k + 1) "_law_all_plans" 1 F_law_all_plans := by
  refine cal_of F gx b sc_law_all_plans rfl len_law_all_plans fun cdv A outer s H E hr => ⟨_, (dss_cons (ds_set (i := 1) sc_law_all_plans.nd rfl (.inl rfl) (de_lst (da_cons (de_tup da_nil) da_nil))) (dss_cons (ds_for PassesOwn.never rfl (di_range1 rfl rfl M.range (da_cons (de_len rfl rfl M.len (da_cons (de_ix (de_var 0) de_int) da_nil)) da_nil)) (dg_name (i := 2) sc_law_all_plans.nd rfl (.inr rfl)) (dss_lock (i := 1) (dss_one (ds_set (i := 1) sc_law_all_plans.nd rfl (.inl rfl) (de_op od_add (de_var 1) (de_lc rfl sc_law_all_plans.nd (di_list (de_var 1)) (blkOk_by (own := [("_law_plan_here", 3)]) (N := nm_law_all_plans) (sc := defScope (topS 68)) (by decide +kernel)) (fun _ _ _ _ _ => (dg_name (i := 3) sc_law_all_plans.nd rfl (.inl rfl))) (fun _ _ _ _ _ => dts_nil) (fun _ _ _ _ _ => (de_op od_add (de_var 3) (de_tup (da_cons (de_var 2) da_nil)))))))))) (dss_one (ds_ret (de_sorted hr rfl rfl M.sorted (da_cons (de_var 1) da_nil)))))), ?_⟩
  rintro ds R ⟨fl, rfl, hf, q⟩
  refine ⟨_, rfl, le_ok, _, rfl, le_ok, _, rfl, lt_ok, _, rfl, _, rfl, ?_⟩
  refine ⟨by rw [List.length_map]; omega, by rw [List.length_map]; omega, ?_⟩
  rw [List.length_map]
  dsimp only
  rw [rg_e]
  refine for_inv (fun i ρ => ∃ c l, l = (plans i).map eP ∧ ρ = [some (.dat (.d (eFl fl))), some (.lst l), c, none]) ⟨none, _, rfl, rfl⟩ ?_ ?_
  · rintro i j ρ hi ⟨c, _, rfl, rfl⟩ nx hn
    obtain ⟨hin, rfl⟩ := rg_at hi
    have hl : (plans j).length ≤ 1024 := by
      rw [plans_len]
      exact Nat.pow_le_pow_right (n := 2) (by decide) (show j ≤ 10 by omega)
    refine ⟨lt_ok, _, _, rfl, rfl, rfl, _, rfl, free_ok, ?_⟩
    refine lc_Nm (enc := eP) (encB := eP) (fun p => p ++ [j]) lt_ok rfl (fun p hp K h => ?_) ?_
    · have h2 := (plans_ok j p hp).len
      refine ⟨_, rfl, le_ok, ?_, ?_⟩
      · show (p.map eN).length + 1 ≤ _
        rw [List.length_map]
        exact Nat.le_trans (m := 100) (by omega) (by decide)
      · rw [eP, eT, List.map_append] at h
        exact h
    · refine ⟨?_, _, rfl, lt_ok, hn _ ⟨_, _, ?_, rfl⟩⟩
      · rw [List.length_map, List.length_map, List.length_map]
        exact Nat.le_trans (m := 4000) (by omega) (by decide)
      · rw [plans, List.map_append]
  · rintro ρ ⟨c, _, rfl, rfl⟩
    rw [List.length_range]
    refine ⟨srt_P _, _, _, rfl, ?_⟩
    rw [srtE_map]
    exact q
abbrev F_law_plan : PrB := fun bag ds R => ∃ (f : Flt), ds = [.d (eFl f)] ∧ f.rs.length ≤ 100 ∧ BagOk bag ∧ ∀ p bag', PlanOk f.rs.length p → BagOk bag' → R (.d (eP p)) bag'
theorem len_law_plan : ∀ bag ds R, F_law_plan bag ds R → ds.length + 1 = 2 := by
  rintro bag ds R ⟨f, rfl, _⟩; rfl
/-! _law_plan: slots 0 _law_bag_here, 1 _law_fleet_here, 2 _law_least, 3 _law_j -/
abbrev nm_law_plan : List Str := ["_law_bag_here", "_law_fleet_here", "_law_least", "_law_j"]
theorem sc_law_plan : FnScope nm_law_plan ["_law_bag_here", "_law_fleet_here"] (defScope (topS 57)) := ⟨rfl, rfl, rfl, by decide +kernel, rfl, by decide +kernel, by decide +kernel⟩
theorem ok_law_plan {f : Addr} {fd : FuncData} {k : Nat} (F : Fun K "_law_plan" "_law_plan" (topS 57) f fd) (gx : mg "_law_plan" = some (.ref f)) (b : Binds K fd ["_law_bag_here", "_law_fleet_here"] []) (M : Blt mg) (C_law_some : CalB P w K mg base k "_law_some" 2 F_law_some) (C_law_take : CalB P w K mg base k "_law_take" 2 F_law_take) :
    CalB P w K mg base (k + 1) "_law_plan" 2 F_law_plan := by
  refine calB_of F gx b sc_law_plan rfl len_law_plan fun cdv A outer s H E hr => ⟨_, (dss_cons (ds_set (i := 2) sc_law_plan.nd rfl (.inr rfl) (de_fnB C_law_some hr (Nat.le_refl _) rfl (da_cons (de_var 0) (da_cons (de_frz (de_lst (da_cons de_int (da_cons de_int (da_cons de_int (da_cons de_int da_nil)))))) da_nil)))) (dss_one (ds_ret (de_tupc rfl rfl M.tuple (da_cons (de_lc rfl sc_law_plan.nd (di_range1 rfl rfl M.range (da_cons (de_len rfl rfl M.len (da_cons (de_ix (de_var 1) de_int) da_nil)) da_nil)) (blkOk_by (own := [("_law_j", 3)]) (N := nm_law_plan) (sc := defScope (topS 57)) (by decide +kernel)) (fun _ _ _ _ _ => (dg_name (i := 3) sc_law_plan.nd rfl (.inl rfl))) (fun _ _ _ _ _ => (dts_one (dt_cmp od_le (de_fnB C_law_take hr (Nat.le_refl _) rfl (da_cons (de_var 0) (da_cons de_int da_nil))) (de_var 2)))) (fun _ _ _ _ _ => (de_var 3))) da_nil))))), ?_⟩
  rintro bag ds R ⟨fl, rfl, hf, hb, hR⟩
  refine ⟨_, rfl, le_ok, _, rfl, 0, _, bag, _, rfl, rfl, rfl, _, _, rfl, rfl, by decide, by decide, hb, fun x hx bag1 hb1 => ?_⟩
  have hx : ∃ i : Nat, x = eN i := by
    simp only [List.mem_cons, List.not_mem_nil, or_false] at hx
    rcases hx with rfl | rfl | rfl | rfl
    · exact ⟨1, rfl⟩
    · exact ⟨0, rfl⟩
    · exact ⟨2, rfl⟩
    · exact ⟨3, rfl⟩
  obtain ⟨m, rfl⟩ := hx
  refine ⟨_, rfl, lt_ok, _, rfl, _, rfl, ?_⟩
  refine ⟨by rw [List.length_map]; omega, by rw [List.length_map]; omega, ?_⟩
  rw [List.length_map]
  dsimp only
  rw [rg_e]
  refine ⟨free_ok, ?_⟩
  refine lc_inv (fun i acc ρ => ∃ bag p, BagOk bag ∧ acc = p.map eN ∧ PlanOk i p ∧ ρ = [some (.lst bag), some (.dat (.d (eFl fl))), some (.dat (.d (eN m))), none]) _ 0 _ _ ⟨bag1, [], hb1, rfl, PlanOk.nil 0, rfl⟩ ?_ ?_
  · rintro i j acc ρ hi ⟨bag, p, hb, rfl, hp, rfl⟩ K1 K0 h1 h0
    obtain ⟨hin, rfl⟩ := rg_at hi
    rw [Nat.zero_add] at hp h1 h0
    have hp2 : PlanOk (j + 1) p := ⟨hp.1, fun h hh => Nat.lt_succ_of_lt (hp.2 h hh)⟩
    refine ⟨lt_ok, 0, _, bag, _, rfl, rfl, rfl, _, rfl, by decide, by decide, hb, fun v bag' hv hb' => ?_⟩
    refine ⟨_, rfl, ifd (fun hc => ?_) fun hc => ?_⟩
    · refine h1 _ _ _ rfl ⟨bag', p ++ [j], hb', by rw [List.map_append]; rfl, ?_, rfl⟩
      refine ⟨List.pairwise_append.mpr ⟨hp.1, by simp, fun a ha b hb => ?_⟩, fun h hh => ?_⟩
      · simp only [List.mem_singleton] at hb
        subst hb
        exact hp.2 a ha
      · rcases List.mem_append.mp hh with hh | hh
        · exact hp2.2 h hh
        · simp only [List.mem_singleton] at hh
          omega
    · exact h0 _ ⟨bag', p, hb', rfl, hp2, rfl⟩
  · rintro acc ρ ⟨bag, p, hb, rfl, hp, rfl⟩
    rw [List.length_range, Nat.zero_add] at hp
    exact ⟨_, _, rfl, bag, rfl, hR p bag hp hb⟩
theorem lsOf_mem {f : Flt} {l : Lease} : l ∈ lsOf f.names f.rs ↔ l ∈ rawLs f.names f.rs := (srtE_perm eLs _).mem_iff
abbrev F_law_pins : PrB := fun bag ds R => ∃ (f : Flt), ds = [.d (eFl f)] ∧ FlOk f ∧ BagOk bag ∧ ∀ pins bag', (∀ l ∈ pins, l ∈ lsOf f.names f.rs ∧ l.2 ≠ 0) → pins.length ≤ 200 → BagOk bag' → R (.d (ePins pins)) bag'
theorem len_law_pins : ∀ bag ds R, F_law_pins bag ds R → ds.length + 1 = 2 := by
  rintro bag ds R ⟨f, rfl, _⟩; rfl
/-! _law_pins: slots 0 _law_bag_here, 1 _law_fleet_here, 2 _law_some_here, 3 _law_of, 4 _law_lease -/
abbrev nm_law_pins : List Str := ["_law_bag_here", "_law_fleet_here", "_law_some_here", "_law_of", "_law_lease"]
theorem sc_law_pins : FnScope nm_law_pins ["_law_bag_here", "_law_fleet_here"] (defScope (topS 60)) := ⟨rfl, rfl, rfl, by decide +kernel, rfl, by decide +kernel, by decide +kernel⟩
theorem ok_law_pins {f : Addr} {fd : FuncData} {k : Nat} (F : Fun K "_law_pins" "_law_pins" (topS 60) f fd) (gx : mg "_law_pins" = some (.ref f)) (b : Binds K fd ["_law_bag_here", "_law_fleet_here"] []) (M : Blt mg) (C_law_leases : Cal P w K mg base k "_law_leases" 1 F_law_leases) (C_law_some : CalB P w K mg base k "_law_some" 2 F_law_some) (C_law_take : CalB P w K mg base k "_law_take" 2 F_law_take) :
    CalB P w K mg base (k + 1) "_law_pins" 2 F_law_pins := by
  refine calB_of F gx b sc_law_pins rfl len_law_pins fun cdv A outer s H E hr => ⟨_, (dss_cons (ds_parT (is := [2, 3]) rfl (da_cons (de_lc rfl sc_law_pins.nd (di_list (de_fn C_law_leases hr (Nat.le_refl _) rfl (da_cons (de_var 1) da_nil))) (blkOk_by (own := [("_law_lease", 4)]) (N := nm_law_pins) (sc := defScope (topS 60)) (by decide +kernel)) (fun _ _ _ _ _ => (dg_name (i := 4) sc_law_pins.nd rfl (.inl rfl))) (fun _ _ _ _ _ => (dts_one (dt_cmp od_gt (de_ix (de_var 4) de_int) de_int))) (fun _ _ _ _ _ => (de_var 4))) (da_cons (de_fnB C_law_some hr (Nat.le_refl _) rfl (da_cons (de_var 0) (da_cons (de_frz (de_lst (da_cons de_int (da_cons de_int (da_cons de_int (da_cons de_int (da_cons de_int da_nil))))))) da_nil))) da_nil)) (pgs_cons (pg_name (i := 2) sc_law_pins.nd rfl (.inl rfl)) (pgs_cons (pg_name (i := 3) sc_law_pins.nd rfl (.inr rfl)) pgs_nil)) set2_ok) (dss_lock (i := 2) (dss_one (ds_ret (de_tupc rfl rfl M.tuple (da_cons (de_lc rfl sc_law_pins.nd (di_list (de_var 2)) (blkOk_by (own := [("_law_lease", 4)]) (N := nm_law_pins) (sc := defScope (topS 60)) (by decide +kernel)) (fun _ _ _ _ _ => (dg_name (i := 4) sc_law_pins.nd rfl (.inl rfl))) (fun _ _ _ _ _ => (dts_one (dt_w (dw_and (dt_cmp od_gt (de_var 3) de_int) (dw_and1 (dt_cmp (od_eq hr.hu) (de_fnB C_law_take hr (Nat.le_refl _) rfl (da_cons (de_var 0) (da_cons (de_var 3) da_nil))) de_int)))))) (fun _ _ _ _ _ => (de_var 4))) da_nil)))))), ?_⟩
  rintro bag ds R ⟨fl, rfl, hf, hb, hR⟩
  have hl1 := hf.nlen
  have hl2 := hf.rlen
  have hls : (lsOf fl.names fl.rs).length ≤ 200 := by
    unfold lsOf
    rw [(srtE_perm eLs _).length_eq]
    unfold rawLs
    simp only [List.length_append, List.length_map, List.length_zipIdx]
    omega
  refine ⟨_, rfl, fl, rfl, hf, _, rfl, free_ok, ?_⟩
  refine lc_N (enc := eLs) (encB := eLs) (fun l => decide (0 < l.2)) id lt_ok rfl (fun l hl K h => ?_) (fun l hl e K h => h) ?_
  · exact ⟨_, rfl, _, rfl, rb (F := fun b => K b _) (decide_eq_decide.mpr (by omega)) h⟩
  rw [List.map_id]
  refine ⟨_, rfl, le_ok, _, rfl, 0, _, bag, _, rfl, rfl, rfl, _, _, rfl, rfl, by decide, by decide, hb, fun x hx bag1 hb1 => ?_⟩
  have hx : ∃ i : Nat, x = eN i ∧ i ≤ 8 := by
    simp only [List.mem_cons, List.not_mem_nil, or_false] at hx
    rcases hx with rfl | rfl | rfl | rfl | rfl
    · exact ⟨0, rfl, by decide⟩
    · exact ⟨4, rfl, by decide⟩
    · exact ⟨2, rfl, by decide⟩
    · exact ⟨8, rfl, by decide⟩
    · exact ⟨1, rfl, by decide⟩
  obtain ⟨m, rfl, hm⟩ := hx
  generalize hL : (lsOf fl.names fl.rs).filter (fun l => decide (0 < l.2)) = L
  have hLm : ∀ l ∈ L, l ∈ lsOf fl.names fl.rs ∧ l.2 ≠ 0 := fun l hl => by
    rw [← hL] at hl
    have := List.mem_filter.mp hl
    have h2 := of_decide_eq_true this.2
    exact ⟨this.1, by omega⟩
  have hLl : L.length ≤ 200 := by
    rw [← hL]
    exact Nat.le_trans (List.length_filter_le _ _) hls
  refine ⟨_, rfl, _, _, rfl, rfl, rfl, _, rfl, free_ok, ?_⟩
  refine lc_inv (enc := eLs) (fun i acc ρ => ∃ bag pins, BagOk bag ∧ acc = pins.map eLs ∧ (∀ l ∈ pins, l ∈ L) ∧ pins.length ≤ i ∧ ρ = [some (.lst bag), some (.dat (.d (eFl fl))), some (.dat (.d (eL eLs L))), some (.dat (.d (eN m))), none]) _ 0 _ _ ⟨bag1, [], hb1, rfl, by simp, Nat.le_refl _, rfl⟩ ?_ ?_
  · rintro i l acc ρ hi ⟨bag, pins, hb, rfl, hp, hpl, rfl⟩ K1 K0 h1 h0
    have hlL := List.mem_of_getElem? hi
    refine ⟨lt_ok, _, rfl, ifd (fun hc => ?_) fun hc => ?_⟩
    · have hc : 0 < (m : Int) := hc
      refine ⟨0, _, bag, _, rfl, rfl, rfl, _, rfl, hc, by omega, hb, fun v bag' hv hb' => ?_⟩
      refine ⟨Nat.zero_le 60, _, rfl, ife (okd_nat.eq v 0) (fun hv => ?_) fun hv => ?_⟩
      · refine h1 _ _ _ rfl ⟨bag', pins ++ [l], hb', by rw [List.map_append]; rfl, fun y hy => ?_, by rw [List.length_append]; exact Nat.succ_le_succ hpl, rfl⟩
        rcases List.mem_append.mp hy with hy | hy
        · exact hp y hy
        · simp only [List.mem_singleton] at hy
          rw [hy]; exact hlL
      · exact h0 _ ⟨bag', pins, hb', rfl, hp, by omega, rfl⟩
    · exact h0 _ ⟨bag, pins, hb, rfl, hp, by omega, rfl⟩
  · rintro acc ρ ⟨bag, pins, hb, rfl, hp, hpl, rfl⟩
    exact ⟨_, _, rfl, bag, rfl, hR pins bag (fun l hl => hLm l (hp l hl)) (by omega) hb⟩
theorem map_erase {α β : Type} (f : α → β) : ∀ (l : List α) (i : Nat), (l.map f).eraseIdx i = (l.eraseIdx i).map f
  | [], _ => rfl
  | _ :: _, 0 => rfl
  | a :: l, i + 1 => by rw [List.map_cons, List.eraseIdx_cons_succ, List.eraseIdx_cons_succ, List.map_cons, map_erase f l i]
abbrev DrawnFl (n m : Nat) (f : Flt) : Prop := FlOk f ∧ f.names.length = n ∧ f.places.Nodup ∧ f.places.length = n ∧ (∀ x ∈ f.places, x ≤ n) ∧ f.rs.length ≤ m
abbrev F_law_fleet : PrB := fun bag ds R => ∃ (n m : Nat), ds = [.d (eN n), .d (eN m)] ∧ 1 ≤ n ∧ n ≤ 12 ∧ m ≤ 90 ∧ BagOk bag ∧ ∀ f bag', DrawnFl n m f → BagOk bag' → R (.d (eFl f)) bag'
theorem len_law_fleet : ∀ bag ds R, F_law_fleet bag ds R → ds.length + 1 = 3 := by
  rintro bag ds R ⟨n, m, rfl, _⟩; rfl
/-! _law_fleet: slots 0 _law_bag_here, 1 _law_many, 2 _law_most, 3 _law_places, 4 _law_at, 5 _law_services, 6 _law_kind, 7 _law_some_here, 8 _law_restarts, 9 _law_one -/
abbrev nm_law_fleet : List Str := ["_law_bag_here", "_law_many", "_law_most", "_law_places", "_law_at", "_law_services", "_law_kind", "_law_some_here", "_law_restarts", "_law_one"]
theorem sc_law_fleet : FnScope nm_law_fleet ["_law_bag_here", "_law_many", "_law_most"] (defScope (topS 56)) := ⟨rfl, rfl, rfl, by decide +kernel, rfl, by decide +kernel, by decide +kernel⟩
theorem ok_law_fleet {f : Addr} {fd : FuncData} {k : Nat} (F : Fun K "_law_fleet" "_law_fleet" (topS 56) f fd) (gx : mg "_law_fleet" = some (.ref f)) (b : Binds K fd ["_law_bag_here", "_law_many", "_law_most"] []) (M : Blt mg) (C_law_mixed : CalB P w K mg base k "_law_mixed" 2 F_law_mixed) (C_law_names : CalB P w K mg base k "_law_names" 2 F_law_names) (C_law_some : CalB P w K mg base k "_law_some" 2 F_law_some) (C_law_take : CalB P w K mg base k "_law_take" 2 F_law_take) :
    CalB P w K mg base (k + 1) "_law_fleet" 3 F_law_fleet := by
  refine calB_of F gx b sc_law_fleet rfl len_law_fleet fun cdv A outer s H E hr => ⟨_, (dss_cons (ds_par2 (i := 5) (j := 6) rfl sc_law_fleet.nd rfl rfl (by decide) rfl rfl (da_cons (de_tupc rfl rfl M.tuple (da_cons (de_sorted hr rfl rfl M.sorted (da_cons (de_fnB C_law_names hr (Nat.le_refl _) rfl (da_cons (de_var 0) (da_cons (de_var 1) da_nil))) da_nil)) da_nil)) (da_cons (de_fnB C_law_take hr (Nat.le_refl _) rfl (da_cons (de_var 0) (da_cons de_int da_nil))) da_nil)) (by rfl)) (dss_cons (ds_set (i := 3) sc_law_fleet.nd rfl (.inl rfl) (de_tupc rfl rfl M.tuple (da_cons (de_sl (de_fnB C_law_mixed hr (Nat.le_refl _) rfl (da_cons (de_var 0) (da_cons (de_frz (de_listRg rfl rfl rfl rfl M.list rfl M.range (de_op od_add (de_var 1) de_int))) da_nil))) do_no (do_yes (de_var 1))) da_nil))) (dss_cons (ds_par2 (i := 7) (j := 8) rfl sc_law_fleet.nd rfl rfl (by decide) rfl rfl (da_cons (de_lstc rfl rfl M.list (da_cons (de_var 5) da_nil)) (da_cons (de_lst da_nil) da_nil)) (by rfl)) (dss_cons (ds_if (dt_w (dw_and (dt_cmp (od_eq hr.hu) (de_var 6) de_int) (dw_and1 (dt_cmp od_gt (de_var 1) de_int)))) (dss_one (ds_expr (de_popAt rfl (de_var 7) (da_cons (de_fnB C_law_take hr (Nat.le_refl _) rfl (da_cons (de_var 0) (da_cons (de_var 1) da_nil))) da_nil)))) dss_nil) (dss_lock (i := 7) (dss_cons (ds_for PassesOwn.never rfl (di_range1 rfl rfl M.range (da_cons (de_fnB C_law_take hr (Nat.le_refl _) rfl (da_cons (de_var 0) (da_cons (de_op od_add (de_var 2) de_int) da_nil))) da_nil)) (dg_name (i := 4) sc_law_fleet.nd rfl (.inl rfl)) (dss_cons (ds_if (dt_cmp (od_eq hr.hu) (de_var 6) de_int) (dss_one (ds_set (i := 9) sc_law_fleet.nd rfl (.inl rfl) (de_ix (de_var 7) (de_op od_mod (de_intc rfl rfl M.int (da_cons (de_var 4) da_nil)) (de_len rfl rfl M.len (da_cons (de_var 7) da_nil)))))) (dss_one (ds_if (dt_w (dw_and (dt_cmp (od_eq hr.hu) (de_var 6) de_int) (dw_and (dt_cmp (od_ne hr.hu) (de_var 8) (de_lst da_nil)) (dw_and1 (dt_cmp (od_eq hr.hu) (de_fnB C_law_take hr (Nat.le_refl _) rfl (da_cons (de_var 0) (da_cons de_int da_nil))) de_int))))) (dss_one (ds_set (i := 9) sc_law_fleet.nd rfl (.inl rfl) (de_ix (de_var 8) (de_neg de_int)))) (dss_one (ds_set (i := 9) sc_law_fleet.nd rfl (.inl rfl) (de_fnB C_law_some hr (Nat.le_refl _) rfl (da_cons (de_var 0) (da_cons (de_var 7) da_nil)))))))) (dss_one (ds_expr (de_append rfl (de_var 8) (da_cons (de_var 9) da_nil)))))) (dss_one (ds_ret (de_tup (da_cons (de_var 5) (da_cons (de_var 3) (da_cons (de_tupc rfl rfl M.tuple (da_cons (de_var 8) da_nil)) da_nil)))))))))))), ?_⟩
  rintro bag ds R ⟨n, m, rfl, hn, hn2, hm, hb, hR⟩
  refine ⟨0, _, bag, _, rfl, rfl, rfl, n, rfl, hn2, hb, fun l bag1 hl hb1 => ?_⟩
  have srtS : SrtOk (l.map PyData.str) := srt_others okd_str (by decide) alike_str (fun a => ⟨by simp, by simp⟩) l
  refine ⟨srtS, 0, _, bag1, _, rfl, rfl, rfl, _, rfl, by decide, by decide, hb1, fun kd bag2 hkd hb2 => ⟨_, rfl, ?_⟩⟩
  rw [srtE_map]
  have hN : NmsOk (srtE .str l) n := ⟨(srtE_perm .str l).length_eq.trans hl.len, (srtE_perm .str l).nodup_iff.mpr hl.nd, fun x hx => hl.ok x ((srtE_perm .str l).mem_iff.mp hx)⟩
  generalize srtE .str l = N at hN
  dsimp only
  have hNf : FlOk ⟨N, [], []⟩ := ⟨by show N.length ≤ 100; rw [hN.len]; omega, Nat.zero_le _, hN.nd, by simp, hN.ok⟩
  refine seq_mid (fun ρ => ∃ bag pl, BagOk bag ∧ pl.Nodup ∧ pl.length = n ∧ (∀ x ∈ pl, x ≤ n) ∧ ρ = [some (.lst bag), some (.dat (.d (eN n))), some (.dat (.d (eN m))), some (.dat (.d (eT eN pl))), none, some (.dat (.d (eT .str N))), some (.dat (.d (eN kd))), none, none, none]) ?_ fun nx hnx => ?_
  · rintro ρ ⟨bag, pl, hb, hp1, hp2, hp3, rfl⟩
    refine ⟨_, rfl, le_ok, _, rfl, ?_⟩
    dsimp only
    refine seq_mid (fun ρ => ∃ bag sm, BagOk bag ∧ sm ≠ [] ∧ sm.length ≤ 12 ∧ (∀ x ∈ sm, x ∈ N) ∧ ρ = [some (.lst bag), some (.dat (.d (eN n))), some (.dat (.d (eN m))), some (.dat (.d (eT eN pl))), none, some (.dat (.d (eT .str N))), some (.dat (.d (eN kd))), some (.lst (sm.map .str)), some (.lst []), none]) ?_ fun nx hnx => ?_
    · rintro ρ ⟨bag, sm, hb, hs1, hs2, hs3, rfl⟩
      refine ⟨_, _, rfl, rfl, rfl, ?_⟩
      dsimp only [List.set]
      refine ⟨0, _, bag, _, rfl, rfl, rfl, _, rfl, by omega, by omega, hb, fun r bag' hr hb' => ?_⟩
      refine ⟨_, rfl, by omega, by omega, ?_⟩
      rw [rg_e]
      refine for_inv (fun i ρ => ∃ bag rs c4 c9, BagOk bag ∧ rs.length = i ∧ (∀ x ∈ rs, x ∈ N) ∧ ρ = [some (.lst bag), some (.dat (.d (eN n))), some (.dat (.d (eN m))), some (.dat (.d (eT eN pl))), c4, some (.dat (.d (eT .str N))), some (.dat (.d (eN kd))), some (.dat (.d (eL .str sm))), some (.lst (rs.map .str)), c9]) ⟨bag', [], none, none, hb', rfl, by simp, rfl⟩ ?_ ?_
      · rintro i j ρ hi ⟨bag, rs, c4, c9, hb, hr1, hr2, rfl⟩ nx hn
        obtain ⟨hin, rfl⟩ := rg_at hi
        have hsl : 0 < sm.length := List.length_pos_iff.mpr hs1
        refine ⟨lt_ok, ?_⟩
        dsimp only [List.set]
        refine seq_mid (fun ρ => ∃ bag x, BagOk bag ∧ x ∈ N ∧ ρ = [some (.lst bag), some (.dat (.d (eN n))), some (.dat (.d (eN m))), some (.dat (.d (eT eN pl))), some (.dat (.d (eN j))), some (.dat (.d (eT .str N))), some (.dat (.d (eN kd))), some (.dat (.d (eL .str sm))), some (.lst (rs.map .str)), some (.dat (.d (.str x)))]) ?_ fun nx hn2 => ?_
        · rintro ρ ⟨bag, x, hb, hx, rfl⟩
          refine ⟨_, _, rfl, _, rfl, _, rfl, ?_, hn _ ⟨bag, rs ++ [x], some (.dat (.d (eN j))), some (.dat (.d (.str x))), hb, by rw [List.length_append, hr1]; rfl, fun y hy => ?_, ?_⟩⟩
          · rw [List.length_map, hr1]; exact Nat.lt_of_lt_of_le (m := 100) (by omega) (by decide)
          · rcases List.mem_append.mp hy with hy | hy
            · exact hr2 y hy
            · simp only [List.mem_singleton] at hy
              rw [hy]; exact hx
          · rw [List.map_append]; rfl
        · refine ⟨Nat.zero_le 60, _, rfl, ife (okd_nat.eq kd 2) (fun hk => ?_) fun hk => ?_⟩
          · have hml : j % sm.length < sm.length := Nat.mod_lt _ hsl
            have g1 : atI (sm.map PyData.str) ((j : Int) % ((sm.map PyData.str).length : Nat)) = some (.str (sm[j % sm.length])) := by
              rw [List.length_map, show (j : Int) % (sm.length : Nat) = ((j % sm.length : Nat) : Int) by omega]
              exact atI_map (List.getElem?_eq_getElem hml)
            refine ⟨by rw [List.length_map]; omega, _, g1, _, rfl, lt_ok, hn2 _ ⟨bag, _, hb, hs3 _ (List.getElem_mem hml), rfl⟩⟩
          · have fin : ∀ bag, BagOk bag → sSet 9 (eFnB (aCons (eVar 0) (aCons (eVar 7) aNil)) F_law_some) [some (.lst bag), some (.dat (.d (eN n))), some (.dat (.d (eN m))), some (.dat (.d (eT eN pl))), some (.dat (.d (eN j))), some (.dat (.d (eT .str N))), some (.dat (.d (eN kd))), some (.dat (.d (eL .str sm))), some (.lst (rs.map .str)), c9] ⟨nx, fun _ _ => False, fun _ => False, fun _ => False⟩ := fun bag hb => by
              refine ⟨0, _, bag, _, rfl, rfl, rfl, _, _, rfl, rfl, by rw [List.length_map]; exact hsl, by rw [List.length_map]; omega, hb, fun x hx bag' hb' => ?_⟩
              obtain ⟨y, hy, rfl⟩ := List.mem_map.mp hx
              exact ⟨_, rfl, lt_ok, hn2 _ ⟨bag', y, hb', hs3 _ hy, rfl⟩⟩
            refine ⟨Nat.zero_le 60, _, rfl, ife (okd_nat.eq kd 3) (fun hk => ?_) fun hk => fin bag hb⟩
            refine ⟨_, rfl, le_ok, Nat.le_trans (Nat.min_le_right _ _) (by decide), _, rfl, ife ((okd_L okd_str).ne rs []) (fun h => ?_) fun h => fin bag hb⟩
            refine ⟨0, _, bag, _, rfl, rfl, rfl, _, rfl, by decide, by decide, hb, fun v bag' hv hb' => ?_⟩
            refine ⟨Nat.zero_le 60, _, rfl, ife (okd_nat.eq v 0) (fun hv => ?_) fun hv => fin bag' hb'⟩
            obtain ⟨z, hz⟩ : ∃ z, rs.getLast? = some z := by
              cases e : rs.getLast? with
              | none => exact absurd (List.getLast?_eq_none_iff.mp e) h
              | some z => exact ⟨z, rfl⟩
            refine ⟨_, rfl, _, atI_end hz, _, rfl, lt_ok, hn2 _ ⟨bag', z, hb', hr2 _ (List.mem_of_getLast? hz), rfl⟩⟩
      · rintro ρ ⟨bag, rs, c4, c9, hb, hr1, hr2, rfl⟩
        rw [List.length_range] at hr1
        refine ⟨_, rfl, le_ok, _, _, rfl, bag, rfl, hR ⟨N, pl, rs⟩ bag ⟨⟨hNf.nlen, ?_, hN.nd, hr2, hN.ok⟩, hN.len, hp1, hp2, hp3, ?_⟩ hb⟩
        · show rs.length ≤ 100
          omega
        · show rs.length ≤ m
          omega
    · refine ⟨Nat.zero_le 60, _, rfl, ife (okd_nat.eq kd 1) (fun hk => ?_) fun hk => ?_⟩
      · refine ⟨_, rfl, ifd (fun hc => ?_) fun hc => ?_⟩
        · refine ⟨_, _, rfl, 0, _, bag, _, rfl, rfl, rfl, _, rfl, by omega, by omega, hb, fun v bag' hv hb' => ?_⟩
          have hv : v < N.length := by rw [hN.len]; omega
          refine ⟨_, rfl, v, _, rfl, by omega, by rw [List.getElem?_map, List.getElem?_eq_getElem hv]; rfl, ?_⟩
          have e1 : (N.map PyData.str).eraseIdx v = (N.eraseIdx v).map .str := map_erase _ _ _
          refine hnx _ ⟨bag', N.eraseIdx v, hb', ?_, ?_, fun x hx => List.mem_of_mem_eraseIdx hx, ?_⟩
          · intro e
            have := List.length_eraseIdx_of_lt hv
            rw [e, hN.len] at this
            simp at this
            omega
          · rw [List.length_eraseIdx_of_lt hv, hN.len]; omega
          · rw [← e1]; rfl
        · exact hnx _ ⟨bag, N, hb, fun e => by have := hN.len; rw [e] at this; simp at this; omega, by rw [hN.len]; omega, fun x hx => hx, rfl⟩
      · exact hnx _ ⟨bag, N, hb, fun e => by have := hN.len; rw [e] at this; simp at this; omega, by rw [hN.len]; omega, fun x hx => hx, rfl⟩
  · refine ⟨n + 1, rfl, by omega, _, rfl, 0, _, bag2, _, rfl, rfl, rfl, _, rfl, by unfold rgD; rw [List.length_map, List.length_range]; omega, hb2, fun l' bag3 hp hb3 => ?_⟩
    obtain ⟨pl, rfl, hp2⟩ := perm_map_inv (f := eN) hp
    have hlen : pl.length = n + 1 := by rw [hp2.length_eq, List.length_range]
    have gC := cut_to (pl.map eN) n
    have hle : (pl.take n).length = n := by rw [List.length_take, hlen]; omega
    refine ⟨_, rfl, _, rfl, lt_ok, hnx _ ⟨bag3, pl.take n, hb3, ?_, hle, fun x hx => ?_, ?_⟩⟩
    · exact (hp2.nodup_iff.mpr List.nodup_range).sublist (List.take_sublist _ _)
    · have := List.mem_range.mp (hp2.mem_iff.mp (List.mem_of_mem_take hx))
      omega
    · rw [← List.map_take] at gC
      exact congrArg (f := fun l : List PyData => ([some (.lst bag3), some (.dat (.d (eN n))), some (.dat (.d (eN m))), some (.dat (.d (.tuple l))), none, some (.dat (.d (eT .str N))), some (.dat (.d (eN kd))), none, none, none] : Sv)) gC
end
end SH
end P12
section P13
set_option Elab.async false
set_option linter.all false
set_option maxRecDepth 100000
set_option maxHeartbeats 4000000
/-! P13: the bag, small fleets -/
namespace SH
open PySem PySem.Spec PyProof.Rows L2 DL SM
section
variable {P : Program} {w : World} {K : PySem.W.Frag} {mg : Str → Option Value} {base : Heap}
abbrev F_law_cut_fleet : PrB := fun bag ds R => ∃ (n m : Nat), ds = [.d (eN n), .d (eN m)] ∧ 1 ≤ n ∧ n ≤ 12 ∧ m ≤ 30 ∧ BagOk bag ∧ ∀ f bag', DrawnFl n m f → BagOk bag' → R (.d (eFl f)) bag'
theorem len_law_cut_fleet : ∀ bag ds R, F_law_cut_fleet bag ds R → ds.length + 1 = 3 := by
  rintro bag ds R ⟨n, m, rfl, _⟩; rfl
/-! _law_cut_fleet: slots 0 _law_bag_here, 1 _law_many, 2 _law_most, 3 _law_services, 4 _law_places, 5 _law_restarts -/
abbrev nm_law_cut_fleet : List Str := ["_law_bag_here", "_law_many", "_law_most", "_law_services", "_law_places", "_law_restarts"]
theorem sc_law_cut_fleet : FnScope nm_law_cut_fleet ["_law_bag_here", "_law_many", "_law_most"] (defScope (topS 71)) := ⟨rfl, rfl, rfl, by decide +kernel, rfl, by decide +kernel, by decide +kernel⟩
theorem ok_law_cut_fleet {f : Addr} {fd : FuncData} {k : Nat} (F : Fun K "_law_cut_fleet" "_law_cut_fleet" (topS 71) f fd) (gx : mg "_law_cut_fleet" = some (.ref f)) (b : Binds K fd ["_law_bag_here", "_law_many", "_law_most"] []) (M : Blt mg) (C_law_fleet : CalB P w K mg base k "_law_fleet" 3 F_law_fleet) :
    CalB P w K mg base (k + 1) "_law_cut_fleet" 3 F_law_cut_fleet := by
  refine calB_of F gx b sc_law_cut_fleet rfl len_law_cut_fleet fun cdv A outer s H E hr => ⟨_, (dss_cons (ds_asg (de_fnB C_law_fleet hr (Nat.le_refl _) rfl (da_cons (de_var 0) (da_cons (de_var 1) (da_cons (de_op od_mulI de_int (de_var 2)) da_nil)))) (dg_tri (i := 3) (j := 4) (l := 5) rfl sc_law_cut_fleet.nd rfl rfl rfl (.inl rfl) (.inl rfl) (.inl rfl))) (dss_one (ds_ret (de_tup (da_cons (de_var 3) (da_cons (de_var 4) (da_cons (de_sl (de_var 5) do_no (do_yes (de_var 2))) da_nil))))))), ?_⟩
  rintro bag ds R ⟨n, m, rfl, hn, hn2, hm, hb, hR⟩
  have e : (3 : Int) * (m : Nat) = ((3 * m : Nat) : Int) := by omega
  refine ⟨.inr ⟨by omega, by omega⟩, 0, _, bag, _, rfl, rfl, rfl, n, 3 * m, ?_, hn, hn2, by omega, hb, fun f bag' hf hb' => ?_⟩
  · exact congrArg (fun z => [Dt.d (eN n), Dt.d (.int z)]) e
  refine ⟨_, rfl, _, _, _, rfl, lt_ok, lt_ok, lt_ok, ?_⟩
  have gC := cut_to (f.rs.map PyData.str) m
  rw [← List.map_take] at gC
  obtain ⟨h1, h2, h3, h4, h5, h6⟩ := hf
  have hf2 : DrawnFl n m ⟨f.names, f.places, f.rs.take m⟩ := by
    refine ⟨⟨h1.nlen, ?_, h1.nd, fun s hs => h1.mem s (List.mem_of_mem_take hs), h1.nm⟩, h2, h3, h4, h5, ?_⟩
    · show (f.rs.take m).length ≤ 100
      rw [List.length_take]; omega
    · show (f.rs.take m).length ≤ m
      rw [List.length_take]; omega
  refine ⟨_, rfl, _, rfl, le_ok, _, _, rfl, bag', rfl, ?_⟩
  exact rl (F := fun l => R (.d (.tuple [eT .str f.names, eT eN f.places, .tuple l])) bag') gC (hR _ _ hf2 hb')
abbrev F_law_tiny : PrB := fun bag ds R => ds = [] ∧ BagOk bag ∧ ∀ f bag' n, 1 ≤ n → n ≤ 4 → DrawnFl n 6 f → BagOk bag' → R (.d (eFl f)) bag'
theorem len_law_tiny : ∀ bag ds R, F_law_tiny bag ds R → ds.length + 1 = 1 := by
  rintro bag ds R ⟨rfl, _⟩; rfl
/-! _law_tiny: slots 0 _law_bag_here -/
abbrev nm_law_tiny : List Str := ["_law_bag_here"]
theorem sc_law_tiny : FnScope nm_law_tiny ["_law_bag_here"] (defScope (topS 70)) := ⟨rfl, rfl, rfl, by decide +kernel, rfl, by decide +kernel, by decide +kernel⟩
theorem ok_law_tiny {f : Addr} {fd : FuncData} {k : Nat} (F : Fun K "_law_tiny" "_law_tiny" (topS 70) f fd) (gx : mg "_law_tiny" = some (.ref f)) (b : Binds K fd ["_law_bag_here"] []) (M : Blt mg) (C_law_cut_fleet : CalB P w K mg base k "_law_cut_fleet" 3 F_law_cut_fleet) (C_law_some : CalB P w K mg base k "_law_some" 2 F_law_some) :
    CalB P w K mg base (k + 1) "_law_tiny" 1 F_law_tiny := by
  refine calB_of F gx b sc_law_tiny rfl len_law_tiny fun cdv A outer s H E hr => ⟨_, (dss_one (ds_ret (de_fnB C_law_cut_fleet hr (Nat.le_refl _) rfl (da_cons (de_var 0) (da_cons (de_fnB C_law_some hr (Nat.le_refl _) rfl (da_cons (de_var 0) (da_cons (de_frz (de_lst (da_cons de_int (da_cons de_int (da_cons de_int (da_cons de_int (da_cons de_int da_nil))))))) da_nil))) (da_cons (de_fnB C_law_some hr (Nat.le_refl _) rfl (da_cons (de_var 0) (da_cons (de_frz (de_lst (da_cons de_int (da_cons de_int (da_cons de_int da_nil))))) da_nil))) da_nil)))))), ?_⟩
  rintro bag ds R ⟨rfl, hb, hR⟩
  refine ⟨_, rfl, le_ok, _, rfl, 0, _, bag, _, rfl, rfl, rfl, _, _, rfl, rfl, by decide, by decide, hb, fun x hx bag1 hb1 => ?_⟩
  have hx : ∃ i : Nat, x = eN i ∧ 1 ≤ i ∧ i ≤ 4 := by
    simp only [List.mem_cons, List.not_mem_nil, or_false] at hx
    rcases hx with rfl | rfl | rfl | rfl | rfl
    · exact ⟨2, rfl, by decide, by decide⟩
    · exact ⟨3, rfl, by decide, by decide⟩
    · exact ⟨2, rfl, by decide, by decide⟩
    · exact ⟨1, rfl, by decide, by decide⟩
    · exact ⟨4, rfl, by decide, by decide⟩
  obtain ⟨n, rfl, hn1, hn2⟩ := hx
  refine ⟨_, rfl, le_ok, _, rfl, 0, _, bag1, _, rfl, rfl, rfl, _, _, rfl, rfl, by decide, by decide, hb1, fun x hx bag2 hb2 => ?_⟩
  have hx : ∃ i : Nat, x = eN i ∧ i ≤ 6 := by
    simp only [List.mem_cons, List.not_mem_nil, or_false] at hx
    rcases hx with rfl | rfl | rfl
    · exact ⟨5, rfl, by decide⟩
    · exact ⟨6, rfl, by decide⟩
    · exact ⟨4, rfl, by decide⟩
  obtain ⟨m, rfl, hm⟩ := hx
  refine ⟨0, _, bag2, _, rfl, rfl, rfl, n, m, rfl, hn1, by omega, by omega, hb2, fun f bag' hf hb' => ⟨_, _, rfl, bag', rfl, hR f bag' n hn1 hn2 ?_ hb'⟩⟩
  obtain ⟨h1, h2, h3, h4, h5, h6⟩ := hf
  exact ⟨h1, h2, h3, h4, h5, by omega⟩
abbrev F_law_bag : PrN := fun ds R => ∃ l : List Int, ds = [.d (.list (l.map .int))] ∧ l.length ≤ 63 ∧ ∀ bag, BagOk bag → R bag
theorem len_law_bag : ∀ ds R, F_law_bag ds R → ds.length = 1 := by
  rintro ds R ⟨l, rfl, _⟩; rfl
/-! _law_bag: slots 0 _law_script, 1 _law_cell -/
abbrev nm_law_bag : List Str := ["_law_script", "_law_cell"]
theorem sc_law_bag : FnScope nm_law_bag ["_law_script"] (defScope (topS 50)) := ⟨rfl, rfl, rfl, by decide +kernel, rfl, by decide +kernel, by decide +kernel⟩
theorem ok_law_bag {f : Addr} {fd : FuncData} {k : Nat} (F : Fun K "_law_bag" "_law_bag" (topS 50) f fd) (gx : mg "_law_bag" = some (.ref f)) (b : Binds K fd ["_law_script"] []) (M : Blt mg)  :
    CalN P w K mg base (k + 1) "_law_bag" 1 F_law_bag := by
  refine caln_of F gx b sc_law_bag rfl len_law_bag rfl fun cdv A outer s H E hr => ⟨_, (de_lst (da_cons de_int (da_cons de_int (da_cons de_int (da_cons (de_frz (de_lc rfl sc_law_bag.nd (di_list (de_frz (de_sl (de_var 0) do_no (do_yes de_int)))) (blkOk_by (own := [("_law_cell", 1)]) (N := nm_law_bag) (sc := defScope (topS 50)) (by decide +kernel)) (fun _ _ _ _ _ => (dg_name (i := 1) sc_law_bag.nd rfl (.inl rfl))) (fun _ _ _ _ _ => dts_nil) (fun _ _ _ _ _ => (de_abs rfl rfl M.abs (da_cons (de_var 1) da_nil))))) da_nil))))), ?_⟩
  rintro ds R ⟨l, rfl, hl, hR⟩
  have gC := cut_to (l.map PyData.int) 63
  rw [← List.map_take, List.take_of_length_le hl] at gC
  refine ⟨_, rfl, _, rfl, _, rfl, free_ok, ?_⟩
  rw [show DL.cutD (l.map PyData.int) none (some (63 : Int)) = l.map .int from gC]
  refine lc_Nm (enc := PyData.int) (encB := PyData.int) (fun i => if i < 0 then -i else i) lt_ok rfl (fun i hi K h => h) ?_
  refine ⟨_, rfl, _, rfl, le_ok, _, rfl, hR _ ⟨0, 1234567891, 0, _, rfl, by decide, by decide, by decide, by decide, ?_, ?_⟩⟩
  · rw [List.length_map]; omega
  · intro x hx
    obtain ⟨y, _, rfl⟩ := List.mem_map.mp hx
    split <;> omega
end
end SH
end P13
section P14
set_option Elab.async false
set_option linter.all false
set_option maxRecDepth 100000
set_option maxHeartbeats 4000000
/-! P14: the law's own walk through the stretches: which machine is spare -/
namespace SH
open PySem PySem.Spec PyProof.Rows L2 DL SM
/-- the dict at a time -/
def nowK (names : List Str) (m : Str → Nat) : List (Key × V) := names.map fun s => (Sum.inr s, V.int (m s : Nat))
theorem nowK_val {names : List Str} {m : Str → Nat} {s : Str} (h : s ∈ names) : valV (nowK names m) (.inr s) = some (.int (m s : Nat)) := by
  induction names with
  | nil => cases h
  | cons t names ih =>
    by_cases e : t = s
    · subst e
      exact valV_pos rfl
    · have : valV (nowK (t :: names) m) (.inr s) = valV (nowK names m) (.inr s) := valV_neg fun z => e (Sum.inr.inj z)
      rw [this]
      exact ih ((List.mem_cons.mp h).resolve_left (Ne.symm e))
theorem nowK_none {names : List Str} {m : Str → Nat} {s : Str} (h : s ∉ names) : valV (nowK names m) (.inr s) = none := by
  induction names with
  | nil => rfl
  | cons t names ih =>
    rw [List.mem_cons, not_or] at h
    have : valV (nowK (t :: names) m) (.inr s) = valV (nowK names m) (.inr s) := valV_neg fun z => h.1 (Sum.inr.inj z).symm
    rw [this]
    exact ih h.2
theorem nowK_put {names : List Str} {m : Str → Nat} {s : Str} (h : s ∈ names) (v : Nat) : putK (nowK names m) (.inr s) (.int (v : Nat)) = nowK names fun t => if t = s then v else m t := by
  have hv : ((nowK names m).any fun kv => decide (kv.1 = Sum.inr s)) = true := by rw [valV_any, nowK_val h]; rfl
  unfold putK
  rw [if_pos hv]
  unfold nowK
  rw [List.map_map]
  refine List.map_congr_left fun t _ => ?_
  show (if (Sum.inr t : Key) = Sum.inr s then ((Sum.inr t : Key), V.int (v : Nat)) else ((Sum.inr t : Key), V.int (m t : Nat))) = ((Sum.inr t : Key), V.int ((if t = s then v else m t : Nat) : Nat))
  by_cases e : t = s
  · subst e; simp
  · rw [if_neg fun z => e (Sum.inr.inj z), if_neg e]
theorem mergeK_new : ∀ (l acc : List (Key × V)), ((acc ++ l).map (·.1)).Nodup → mergeK acc l = acc ++ l
  | [], acc, _ => by rw [List.append_nil]; rfl
  | x :: l, acc, h => by
    have hx : valV acc x.1 = none := by
      cases e : valV acc x.1 with
      | none => rfl
      | some v =>
        exfalso
        unfold valV at e
        obtain ⟨y, hy, _⟩ := Option.map_eq_some_iff.mp e
        have h1 := List.mem_of_find?_eq_some hy
        have h2 : y.1 = x.1 := by
          have := List.find?_some hy
          simpa using this
        rw [List.map_append, List.nodup_append] at h
        exact h.2.2 _ (List.mem_map.mpr ⟨y, h1, rfl⟩) _ (by rw [List.map_cons]; exact List.mem_cons_self) h2
    show mergeK (putK acc x.1 x.2) l = _
    rw [putK_new _ hx, mergeK_new l _ (by rw [List.append_assoc]; exact h), List.append_assoc]
    rfl
theorem plac_of : ∀ {names : List Str} {pl : List Nat}, names.Nodup → pl.length = names.length → ∃ m : Str → Nat, pl = names.map m
  | [], [], _, _ => ⟨fun _ => 0, rfl⟩
  | s :: names, p :: pl, hn, hl => by
    have n := List.nodup_cons.mp hn
    obtain ⟨m, hm⟩ := plac_of n.2 (by simpa using hl)
    refine ⟨fun t => if t = s then p else m t, ?_⟩
    rw [List.map_cons, if_pos rfl, hm]
    refine congrArg _ (List.map_congr_left fun t ht => ?_)
    rw [if_neg fun e => n.1 (by rw [← e]; exact ht)]
  | [], _ :: _, _, h => by simp at h
  | _ :: _, [], _, h => by simp at h
theorem now_zip (names : List Str) (m : Str → Nat) : (names.map (Sum.inr : Str → Key)).zip ((names.map m).map fun n => V.int (n : Nat)) = nowK names m := by
  induction names with
  | nil => rfl
  | cons s names ih =>
    rw [List.map_cons, List.map_cons, List.map_cons, List.zip_cons_cons, ih]; rfl
theorem now_first {names : List Str} (hn : names.Nodup) (m : Str → Nat) : mergeK [] ((names.map (Sum.inr : Str → Key)).zip ((names.map m).map fun n => V.int (n : Nat))) = nowK names m := by
  rw [now_zip, mergeK_new _ [] ?_]
  · rfl
  · rw [List.nil_append]
    unfold nowK
    rw [List.map_map]
    exact List.pairwise_map.mpr (hn.imp fun {a b} h e => h (Sum.inr.inj e))
end SH
end P14
section P15
set_option Elab.async false
set_option linter.all false
set_option maxRecDepth 100000
set_option maxHeartbeats 4000000
/-! P15: the law's own walk through the stretches: the def -/
namespace SH
open PySem PySem.Spec PyProof.Rows L2 DL SM
theorem forJ_inv {α : Type} {G : Gt} {S : SttJ} {enc : α → PyData} (I : Nat → Sv → Jg → Prop) {R : Sv → Jg → Prop} : ∀ (xs : List α) (k : Nat) (ρ : Sv) (γ : Jg), I k ρ γ →
    (∀ (i : Nat) (x : α) (ρ : Sv) (γ : Jg), xs[i]? = some x → I (k + i) ρ γ → ∀ nx : Sv → Jg → Prop, (∀ ρ' γ', I (k + i + 1) ρ' γ' → nx ρ' γ') → G (enc x) ρ fun ρ1 => NoOwn ρ1 ∧ S ρ1 γ nx) → (∀ ρ γ, I (k + xs.length) ρ γ → R ρ γ) → forJ G S (xs.map enc) ρ γ R
  | [], k, ρ, γ, h, _, hd => hd ρ γ h
  | x :: xs, k, ρ, γ, h, hs, hd => by
    refine hs 0 x ρ γ rfl h _ fun ρ' γ' h' => forJ_inv I xs (k + 1) ρ' γ' h' (fun i y ρ2 γ2 e h2 nx hn => ?_) fun ρ2 γ2 h2 => hd ρ2 γ2 ?_
    · have e1 : k + 1 + i = k + (i + 1) := by omega
      rw [e1] at h2
      refine hs (i + 1) y ρ2 γ2 e h2 nx fun ρ3 γ3 h3 => hn ρ3 γ3 ?_
      have e2 : k + 1 + i + 1 = k + (i + 1) + 1 := by omega
      rw [e2]
      exact h3
    · have e1 : k + 1 + xs.length = k + (x :: xs).length := by rw [List.length_cons]; omega
      rw [← e1]
      exact h2
/-- a fleet as drawn -/
structure Dr (f : Flt) : Prop where
  ok : FlOk f
  nd : f.places.Nodup
  len : f.places.length = f.names.length
  le : ∀ x ∈ f.places, x ≤ f.names.length
/-- spare machines, stretch by stretch -/
structure Spares (n : Nat) (p : List Nat) (l : List Nat) : Prop where
  len : l.length = n + 1
  hop : ∀ h, h < n → (l[h]? = l[h + 1]? ↔ h ∉ p)
theorem free_one {pl : List Nat} {n : Nat} (h : pl.length = n) : ∃ m r, (List.range (n + 1)).filter (fun m => !decide (m ∈ pl)) = m :: r ∧ m ∉ pl := by
  cases e : (List.range (n + 1)).filter (fun m => !decide (m ∈ pl)) with
  | nil =>
    exfalso
    have hall := List.filter_eq_nil_iff.mp e
    have := nodup_sub (l := List.range (n + 1)) (m := pl) List.nodup_range fun x hx => by
      have := hall x hx
      simpa using this
    rw [List.length_range] at this
    omega
  | cons m r =>
    have hm : m ∈ (List.range (n + 1)).filter (fun m => !decide (m ∈ pl)) := by rw [e]; exact List.mem_cons_self
    exact ⟨m, r, rfl, by simpa using (List.mem_filter.mp hm).2⟩
theorem spares_snoc {l p : List Nat} {fr fr' n : Nat} (hl : l.length = n) (h : ∀ h, h < n → ((l ++ [fr])[h]? = (l ++ [fr])[h + 1]? ↔ h ∉ p)) (h2 : fr = fr' ↔ n ∉ p) :
    ∀ h, h < n + 1 → ((l ++ [fr] ++ [fr'])[h]? = (l ++ [fr] ++ [fr'])[h + 1]? ↔ h ∉ p) := by
  intro i hi
  have hlen : (l ++ [fr]).length = n + 1 := by simp [hl]
  rcases Nat.lt_or_eq_of_le (Nat.le_of_lt_succ hi) with h1 | h1
  · rw [List.getElem?_append_left (l₁ := l ++ [fr]) (by omega), List.getElem?_append_left (l₁ := l ++ [fr]) (by omega)]
    exact h i h1
  · subst h1
    have e1 : (l ++ [fr] ++ [fr'])[i]? = some fr := by
      rw [List.getElem?_append_left (by omega), List.getElem?_append_right (by omega), hl, Nat.sub_self]; rfl
    have e2 : (l ++ [fr] ++ [fr'])[i + 1]? = some fr' := by
      rw [List.getElem?_append_right (by omega), hlen, Nat.sub_self]; rfl
    rw [e1, e2, ← h2]
    exact ⟨fun e => Option.some.inj e, fun e => congrArg some e⟩
theorem swap_nodup {names : List Str} {m : Str → Nat} {fr : Nat} {s : Str} (hn : names.Nodup) (hs : s ∈ names) (h : (fr :: names.map m).Nodup) : (m s :: names.map fun t => if t = s then fr else m t).Nodup ∧ m s ≠ fr := by
  have h1 := List.nodup_cons.mp h
  have hne : m s ≠ fr := fun e => h1.1 (by rw [← e]; exact List.mem_map_of_mem hs)
  have inj : ∀ a ∈ names, ∀ b ∈ names, m a = m b → a = b := by
    intro a ha b hb e
    obtain ⟨i, hi⟩ := List.mem_iff_getElem?.mp ha
    obtain ⟨j, hj⟩ := List.mem_iff_getElem?.mp hb
    obtain ⟨i1, i2⟩ := List.getElem?_eq_some_iff.mp hi
    obtain ⟨j1, j2⟩ := List.getElem?_eq_some_iff.mp hj
    have pw := List.pairwise_iff_getElem.mp (List.pairwise_map.mp h1.2)
    rcases Nat.lt_trichotomy i j with q | q | q
    · exact absurd (by rw [i2, j2]; exact e) (pw i j i1 j1 q)
    · subst q; exact i2.symm.trans j2
    · exact absurd (by rw [i2, j2]; exact e.symm) (pw j i j1 i1 q)
  refine ⟨List.nodup_cons.mpr ⟨fun hm => ?_, ?_⟩, hne⟩
  · obtain ⟨t, ht, e⟩ := List.mem_map.mp hm
    by_cases hts : t = s
    · rw [if_pos hts] at e; exact hne e.symm
    · rw [if_neg hts] at e; exact hts (inj t ht s hs e)
  · refine List.pairwise_map.mpr (List.Pairwise.imp_of_mem ?_ hn)
    intro a b ha hb hab
    by_cases h2 : a = s
    · rw [if_pos h2, if_neg fun z => hab (h2.trans z.symm)]
      exact fun e => h1.1 (by rw [e]; exact List.mem_map_of_mem hb)
    · rw [if_neg h2]
      by_cases h3 : b = s
      · rw [if_pos h3]
        exact fun e => h1.1 (by rw [← e]; exact List.mem_map_of_mem ha)
      · rw [if_neg h3]
        exact fun e => hab (inj a ha b hb e)
section
variable {P : Program} {w : World} {K : PySem.W.Frag} {mg : Str → Option Value} {base : Heap}
abbrev F_law_stands : PrT := fun ds R => ∃ (f : Flt) (p : List Nat), ds = [.d (eFl f), .d (eP p)] ∧ Dr f ∧ (∀ h ∈ p, h < f.rs.length) ∧ ∀ l, Spares f.rs.length p l → R (eL eN l)
theorem len_law_stands : ∀ ds R, F_law_stands ds R → ds.length = 2 := by
  rintro ds R ⟨f, p, rfl, _⟩; rfl
abbrev nm_law_stands : List Str := ["_law_fleet_here", "_law_plan_here", "_law_free", "_law_j", "_law_now", "_law_found", "_law_spares", "_law_service", "_law_machine"]
theorem sc_law_stands : FnScope nm_law_stands ["_law_fleet_here", "_law_plan_here"] (defScope (topS 61)) := ⟨rfl, rfl, rfl, by decide +kernel, rfl, by decide +kernel, by decide +kernel⟩
theorem ok_law_stands {f : Addr} {fd : FuncData} {k : Nat} (F : Fun K "_law_stands" "_law_stands" (topS 61) f fd) (gx : mg "_law_stands" = some (.ref f)) (b : Binds K fd ["_law_fleet_here", "_law_plan_here"] []) (M : Blt mg) :
    CalT P w K mg base (k + 1) "_law_stands" 2 F_law_stands := by
  refine calT_raw F gx b sc_law_stands rfl len_law_stands fun cdv A outer s H E hr => ⟨_, pss_cons (psj_init (i := 4) (j := 5) (l := 6) rfl rfl rfl sc_law_stands.nd rfl rfl rfl (by decide) (by decide) (by decide) rfl rfl rfl rfl M.dict rfl M.zip (de_ix (de_var 0) de_int) (de_ix (de_var 0) de_int))
    (pss_cons (psj_set (m := 2) (i := 4) (j := 5) (l := 6) sc_law_stands.nd rfl (.inl rfl) (de_ix (de_lc rfl sc_law_stands.nd (di_range1 rfl rfl M.range (da_cons (de_op od_add (de_len rfl rfl M.len (da_cons (de_ix (de_var 0) de_int) da_nil)) de_int) da_nil)) (blkOk_by (own := [("_law_machine", 8)]) (N := nm_law_stands) (sc := defScope (topS 61)) (by decide +kernel)) (fun _ _ _ _ _ => (dg_name (i := 8) sc_law_stands.nd rfl (.inl rfl))) (fun _ _ _ _ _ => (dts_one (dt_cmp (od_notin hr.hu) (de_var 8) (de_ix (de_var 0) de_int)))) (fun _ _ _ _ _ => (de_var 8))) de_int) (by decide) (by decide) (by decide))
    (pss_cons (psj_for (i := 4) (j := 5) (l := 6) PassesOwn.never rfl (di_range1 rfl rfl M.range (da_cons (de_op od_add (de_len rfl rfl M.len (da_cons (de_ix (de_var 0) de_int) da_nil)) de_int) da_nil)) (dg_name (i := 3) sc_law_stands.nd rfl (.inl rfl)) (by decide) (by decide) (by decide)
      (psj_cons (psj_appCopy (i := 4) (j := 5) (l := 6) rfl rfl rfl M.dict rfl rfl (.inl rfl) (.inl rfl))
      (psj_cons (psj_appInt (i := 4) (j := 5) (l := 6) (m := 2) rfl rfl rfl (.inl rfl) (.inl rfl))
      (psj_one (psj_if (dt_cmp (od_in hr.hu) (de_var 3) (de_var 1))
        (psj_cons (psj_set (m := 7) (i := 4) (j := 5) (l := 6) sc_law_stands.nd rfl (.inl rfl) (de_ix (de_ix (de_var 0) de_int) (de_var 3)) (by decide) (by decide) (by decide))
          (psj_one (psj_swap (i := 4) (j := 5) (l := 6) (m := 2) (n := 7) (Nat.lt_of_le_of_lt (Nat.add_le_add_left (by decide) _) hr.hu) rfl sc_law_stands.nd rfl rfl rfl (.inl rfl) (.inl rfl) (.inl rfl) (.inl rfl) (by decide) (by decide) (by decide))))
        psj_nil)))))
    (pss_one (psj_ret (i := 4) (j := 5) (l := 6) rfl rfl (.inl rfl) (.inl rfl))))), ?_⟩
  rintro ds R ⟨fl, p, rfl, hf, hpl, hR⟩ vs H Q rep hQ
  have hr := hf.ok.rlen
  have hnl := hf.ok.nlen
  obtain ⟨m0, hm0⟩ := plac_of hf.ok.nd hf.len
  refine ⟨_, fl.names, fl.places, rep, startD_no _ _, lt_ok, lt_ok, lt_ok, rfl, rfl, rfl, fun R hR => ⟨_, rfl, hR⟩, fun R hR => ⟨_, rfl, hR⟩, hf.len.symm, by omega, fun a b c σ1 H1 J1 k1 hnew => ?_⟩
  rw [hm0, now_first hf.ok.nd] at J1
  obtain ⟨fr0, r0, ef, hfr⟩ := free_one hf.len
  refine ⟨a, b, c, _, _, fun ρ γ => ρ = [some (.dat (.d (eFl fl))), some (.dat (.d (eP p))), some (.dat (.d (eN fr0))), none, none, none, none, none, none] ∧ γ = ⟨nowK fl.names m0, 0, []⟩, J1, ?_, ?_⟩
  · refine ⟨_, rfl, _, rfl, by simp only [List.length_map]; omega, by simp only [List.length_map]; omega, free_ok, ?_⟩
    have e1 : rgFrom 0 ((((fl.names.map PyData.str).length : Nat) : Int) + 1).toNat = (List.range (fl.names.length + 1)).map eN := by
      rw [List.length_map, ← rg_e]; rfl
    rw [e1]
    refine lc_N (enc := eN) (encB := eN) (fun x => !decide (x ∈ fl.places)) id lt_ok rfl (fun x hx K k => ?_) (fun x hx hp K k => k) ?_
    · refine ⟨_, rfl, Nat.zero_le 60, _, rfl, ?_⟩
      rw [any_e okd_nat]
      exact k
    · rw [List.map_id, ef]
      exact ⟨_, atI_map (l := fr0 :: r0) (i := 0) rfl, rfl, lt_ok, _, rfl, rfl, rfl⟩
  rintro ρ γ σ2 H2 ⟨rfl, rfl⟩ J2 k2
  let I : Nat → Sv → Jg → Prop := fun n ρ γ => ∃ (m : Str → Nat) (fr : Nat) (l : List Nat) (c d : Option Cell), γ = ⟨nowK fl.names m, n, l⟩ ∧ (fr :: fl.names.map m).Nodup ∧ l.length = n ∧ (∀ h, h < n → ((l ++ [fr])[h]? = (l ++ [fr])[h + 1]? ↔ h ∉ p)) ∧
    (c = none ∨ ∃ x, c = some (.dat x)) ∧ (d = none ∨ ∃ x, d = some (.dat x)) ∧ ρ = [some (.dat (.d (eFl fl))), some (.dat (.d (eP p))), some (.dat (.d (eN fr))), c, none, none, none, d, none]
  have hno : ∀ {fr : Nat} {c d : Option Cell}, (c = none ∨ ∃ x, c = some (.dat x)) → (d = none ∨ ∃ x, d = some (.dat x)) → NoOwn [some (.dat (.d (eFl fl))), some (.dat (.d (eP p))), some (.dat (.d (eN fr))), c, none, none, none, d, none] := by
    rintro fr c d hc hd
    rcases hc with rfl | ⟨x, rfl⟩ <;> rcases hd with rfl | ⟨y, rfl⟩
    · exact no_of (l := [some (.d (eFl fl)), some (.d (eP p)), some (.d (eN fr)), none, none, none, none, none, none]) rfl
    · exact no_of (l := [some (.d (eFl fl)), some (.d (eP p)), some (.d (eN fr)), none, none, none, none, some y, none]) rfl
    · exact no_of (l := [some (.d (eFl fl)), some (.d (eP p)), some (.d (eN fr)), some x, none, none, none, none, none]) rfl
    · exact no_of (l := [some (.d (eFl fl)), some (.d (eP p)), some (.d (eN fr)), some x, none, none, none, some y, none]) rfl
  refine ⟨a, b, c, _, _, fun ρ γ => I (fl.rs.length + 1) ρ γ, J2, ?_, ?_⟩
  · have hbn : (((fl.rs.map PyData.str).length : Nat) : Int) + 1 ≤ 1000000 ∧ -1000000 ≤ (((fl.rs.map PyData.str).length : Nat) : Int) + 1 := by rw [List.length_map]; omega
    refine ⟨_, rfl, _, rfl, hbn.1, hbn.2, rfl, ?_⟩
    have e1 : rgFrom 0 ((((fl.rs.map PyData.str).length : Nat) : Int) + 1).toNat = (List.range (fl.rs.length + 1)).map eN := by
      rw [List.length_map, ← rg_e]; rfl
    rw [e1]
    refine forJ_inv (enc := eN) I (List.range (fl.rs.length + 1)) 0 _ _ ⟨m0, fr0, [], none, none, rfl, List.nodup_cons.mpr ⟨by rw [← hm0]; exact hfr, by rw [← hm0]; exact hf.nd⟩, rfl, fun h hh => absurd hh (Nat.not_lt_zero _), .inl rfl, .inl rfl, rfl⟩ ?_ fun ρ γ h => by
      rw [Nat.zero_add, List.length_range] at h; exact h
    rintro i x ρ γ hx ⟨m, fr, l, cc, d, rfl, hnd, hl, hhop, hcc, hdd, rfl⟩ nx hn
    rw [Nat.zero_add] at hl hhop hn
    obtain ⟨hi, hxi⟩ := rg_at hx
    subst hxi
    refine ⟨lt_ok, rfl, rfl, rfl, hno (.inr ⟨_, rfl⟩) hdd, (show 0 + x < 1000 by omega), (show l.length < 1000 by omega), fr, rfl, Nat.zero_le 60, _, rfl, rfl, ?_⟩
    rw [any_e okd_nat]
    refine ifd (fun hp => ?_) fun hp => ?_
    · have hlt : x < fl.rs.length := by
        rcases Nat.lt_or_ge x fl.rs.length with h | h
        · exact h
        · exact absurd (hpl x hp) (by omega)
      have hs : fl.rs[x] ∈ fl.names := hf.ok.mem _ (List.getElem_mem hlt)
      obtain ⟨hnd2, hne⟩ := swap_nodup hf.ok.nd hs hnd
      refine ⟨_, rfl, _, atI_map (List.getElem?_eq_getElem hlt), rfl, lt_ok, _, rfl, fr, m fl.rs[x], fl.rs[x], rfl, rfl, nowK_val hs, ?_, ?_⟩
      · show (nowK fl.names m).length < 1000
        unfold nowK
        rw [List.length_map]; omega
      · refine hn _ _ ⟨fun t => if t = fl.rs[x] then fr else m t, m fl.rs[x], l ++ [fr], _, _, by rw [Nat.zero_add, nowK_put hs], hnd2, by simp [hl], fun h hh => ?_, .inr ⟨_, rfl⟩, .inr ⟨_, rfl⟩, rfl⟩
        exact spares_snoc hl hhop ⟨fun e => absurd e.symm hne, fun z => absurd hp z⟩ h (by omega)
    · refine hn _ _ ⟨m, fr, l ++ [fr], _, d, by rw [Nat.zero_add], hnd, by simp [hl], fun h hh => ?_, .inr ⟨_, rfl⟩, hdd, rfl⟩
      exact spares_snoc hl hhop ⟨fun _ => hp, fun _ => rfl⟩ h (by omega)
  · rintro ρ γ σ3 H3 ⟨m, fr, l, cc, d, rfl, hnd, hl, hhop, hcc, hdd, rfl⟩ J3 k3
    refine ⟨a, b, c, _, _, J3, fun t x H4 ht hd k4 => hQ (eL eN l) t x (.ref c) H4 (hR l ⟨hl, fun h hh => ?_⟩) ⟨fun z o ec => ?_, fun z ec => ?_⟩ ht hd⟩
    · have := hhop h (by omega)
      rw [List.getElem?_append_left (by omega), List.getElem?_append_left (by omega)] at this
      exact this
    · have hc : ¬ (z = a ∨ z = b ∨ z = c) := fun mm => by rw [hnew z mm] at ec; cases ec
      exact k4.keep z o (k3.keep z o (k2.keep z o (k1.keep z o ec) hc) hc) hc
    · exact k1.trk z (k2.trk z (k3.trk z (k4.trk z ec)))
end
end SH
end P15
section P16
set_option Elab.async false
set_option linter.all false
set_option maxRecDepth 100000
set_option maxHeartbeats 4000000
/-! P16: the law's edits that can be done, its depths, its scripts -/
namespace SH
open PySem PySem.Spec PyProof.Rows L2 DL SM
theorem flat_one {α : Type} (a : α) : ∀ n : Nat, (List.replicate n [a]).flatten = List.replicate n a
  | 0 => rfl
  | n + 1 => by rw [List.replicate_succ, List.flatten_cons, flat_one a n, List.replicate_succ]; rfl
theorem const_iff {a : Nat} {r : List Nat} : a :: r = List.replicate (r.length + 1) a ↔ ∀ i, i < r.length → (a :: r)[i]? = (a :: r)[i + 1]? := by
  constructor
  · intro h i hi
    rw [h, List.getElem?_replicate, List.getElem?_replicate, if_pos (by omega), if_pos (by omega)]
  · intro h
    have all : ∀ i, i < r.length + 1 → (a :: r)[i]? = some a := by
      intro i
      induction i with
      | zero => intro _; rfl
      | succ i ih => intro hi; rw [← h i (by omega)]; exact ih (by omega)
    refine List.ext_getElem? fun i => ?_
    by_cases hi : i < r.length + 1
    · rw [all i hi, List.getElem?_replicate, if_pos hi]
    · rw [List.getElem?_eq_none (by simpa using hi), List.getElem?_replicate, if_neg hi]
theorem same_iff {n b e : Nat} {p l : List Nat} (h : Spares n p l) (hbe : b ≤ e) (hen : e ≤ n) :
    ((l.drop b).take (e + 1 - b) = (List.replicate ((l.drop b).take (e + 1 - b)).length (((l.drop b).take (e + 1 - b)).take 1)).flatten) ↔ ∀ x ∈ p, ¬ (b ≤ x ∧ x < e) := by
  have hl := h.len
  have hlen : ((l.drop b).take (e + 1 - b)).length = e + 1 - b := by rw [List.length_take, List.length_drop]; omega
  have hget : ∀ i, i < e + 1 - b → ((l.drop b).take (e + 1 - b))[i]? = l[b + i]? := fun i hi => by
    rw [List.getElem?_take, if_pos hi, List.getElem?_drop]
  generalize hs : (l.drop b).take (e + 1 - b) = s at *
  cases s with
  | nil => simp at hlen; omega
  | cons a r =>
    rw [List.length_cons] at hlen
    rw [List.take_succ_cons, List.take_zero, flat_one, List.length_cons, const_iff]
    constructor
    · rintro k x hx ⟨h1, h2⟩
      have := k (x - b) (by omega)
      rw [hget _ (by omega), hget _ (by omega), show b + (x - b) = x by omega, show b + (x - b + 1) = x + 1 by omega] at this
      exact (h.hop x (by omega)).mp this hx
    · intro k i hi
      rw [hget _ (by omega), hget _ (by omega)]
      exact (h.hop (b + i) (by omega)).mpr fun hx => k _ hx ⟨by omega, by omega⟩
/-- a slice by numbers -/
theorem cut_both {α : Type} (l : List α) {b e : Nat} (hb : b ≤ e) (he : e ≤ l.length) : DL.cutD l (some (b : Int)) (some (e : Int)) = (l.drop b).take (e - b) := by
  unfold DL.cutD
  rw [HT.sIx_nat, HT.sIx_nat, Nat.min_eq_left (show b ≤ l.length by omega)]
  first | rw [Nat.min_eq_left he] | skip
theorem cut_bothE {l : List Nat} {b e : Nat} (hb : b ≤ e) (he : e ≤ l.length) : DL.cutD (l.map eN) (some (b : Int)) (some (e : Int)) = ((l.drop b).take (e - b)).map eN := by
  rw [cut_both _ hb (by rw [List.length_map]; exact he), List.map_take, List.map_drop]
theorem rep_E (n : Nat) (l : List Nat) : (List.replicate n (l.map eN)).flatten = ((List.replicate n l).flatten).map eN := by
  rw [List.map_flatten, List.map_replicate]
theorem eqv_L (a b : List Nat) : PyData.eqv (.list (a.map eN)) (.list (b.map eN)) = decide (a = b) := (okd_L okd_nat).eq a b
theorem endOf_ge {f : Flt} {l : Lease} (h : IsLs f l) : l.2 ≤ endOf f.rs l := by
  rcases Nat.lt_or_ge (endOf f.rs l) f.rs.length with h1 | h1
  · exact ((endOf_le f.rs l).2 h1).1
  · exact Nat.le_trans h.le h1
theorem in_ls (pins : List Lease) (x : Lease) : ((pins.map eLs).any fun d => PyData.eqv d (eLs x)) = @decide (x ∈ pins) (Classical.propDecidable _) := by
  rw [any_e okLs]
  by_cases h : x ∈ pins <;> simp [h]
theorem notin_ls (pins : List Lease) (x : Lease) : (!(pins.map eLs).any fun d => PyData.eqv d (eLs x)) = @decide (x ∉ pins) (Classical.propDecidable _) := by
  rw [any_e okLs]
  by_cases h : x ∈ pins <;> simp [h]
theorem okLP : Okd (e2 eLs eP) 3 := okd_2 okLs okP
section
variable {P : Program} {w : World} {K : PySem.W.Frag} {mg : Str → Option Value} {base : Heap}
abbrev eNear : List (Lease × List Nat) → PyData := eL (e2 eLs eP)
abbrev F_law_near : Pr := fun ds R => ∃ (f : Flt) (p : List Nat) (pins : List Lease), ds = [.d (eFl f), .d (eP p), .d (ePins pins)] ∧ Dr f ∧ PlanOk f.rs.length p ∧ R (.d (eNear (((lsOf f.names f.rs).filter fun l => decide (CanE f.rs p pins l)).map fun l => (l, edt f.rs p l))))
theorem len_law_near : ∀ ds R, F_law_near ds R → ds.length = 3 := by
  rintro ds R ⟨f, p, pins, rfl, _⟩; rfl
/-! _law_near: slots 0 _law_fleet_here, 1 _law_plan_here, 2 _law_pins_here, 3 _law_lease, 4 _law_spares, 5 _law_found, 6 _law_some_here -/
abbrev nm_law_near : List Str := ["_law_fleet_here", "_law_plan_here", "_law_pins_here", "_law_lease", "_law_spares", "_law_found", "_law_some_here"]
theorem sc_law_near : FnScope nm_law_near ["_law_fleet_here", "_law_plan_here", "_law_pins_here"] (defScope (topS 66)) := ⟨rfl, rfl, rfl, by decide +kernel, rfl, by decide +kernel, by decide +kernel⟩
theorem ok_law_near {f : Addr} {fd : FuncData} {k : Nat} (F : Fun K "_law_near" "_law_near" (topS 66) f fd) (gx : mg "_law_near" = some (.ref f)) (b : Binds K fd ["_law_fleet_here", "_law_plan_here", "_law_pins_here"] []) (M : Blt mg) (C_law_end : Cal P w K mg base k "_law_end" 2 F_law_end) (C_law_exchanged : Cal P w K mg base k "_law_exchanged" 3 F_law_exchanged) (C_law_leases : Cal P w K mg base k "_law_leases" 1 F_law_leases) (C_law_stands : CalT P w K mg base k "_law_stands" 2 F_law_stands) :
    Cal P w K mg base (k + 1) "_law_near" 3 F_law_near := by
  refine cal_of F gx b sc_law_near rfl len_law_near fun cdv A outer s H E hr => ⟨_, (dss_cons (ds_par2 (i := 4) (j := 5) rfl sc_law_near.nd rfl rfl (by decide) rfl rfl (da_cons (de_fnT1 C_law_stands hr (Nat.le_refl _) rfl (da_cons (de_var 0) (da_cons (de_var 1) da_nil)) de_int) (da_cons (de_lst da_nil) da_nil)) (by rfl)) (dss_cons (ds_for PassesOwn.never rfl (di_list (de_fn C_law_leases hr (Nat.le_refl _) rfl (da_cons (de_var 0) da_nil))) (dg_name (i := 3) sc_law_near.nd rfl (.inl rfl)) (dss_cons (ds_set (i := 6) sc_law_near.nd rfl (.inl rfl) (de_sl (de_var 4) (do_yes (de_ix (de_var 3) de_int)) (do_yes (de_op od_add (de_fn C_law_end hr (Nat.le_refl _) rfl (da_cons (de_var 0) (da_cons (de_var 3) da_nil))) de_int)))) (dss_one (ds_if (dt_w (dw_and (dt_cmp od_gt (de_ix (de_var 3) de_int) de_int) (dw_and (dt_cmp (od_notin hr.hu) (de_var 3) (de_var 2)) (dw_and1 (dt_cmp (od_eq hr.hu) (de_var 6) (de_op od_rep (de_sl (de_var 6) do_no (do_yes de_int)) (de_len rfl rfl M.len (da_cons (de_var 6) da_nil)))))))) (dss_one (ds_expr (de_append rfl (de_var 5) (da_cons (de_tup (da_cons (de_var 3) (da_cons (de_fn C_law_exchanged hr (Nat.le_refl _) rfl (da_cons (de_var 0) (da_cons (de_var 1) (da_cons (de_var 3) da_nil)))) da_nil))) da_nil)))) dss_nil)))) (dss_one (ds_ret (de_var 5))))), ?_⟩
  rintro ds R ⟨fl, p, pins, rfl, hf, hp, q⟩
  have hr := hf.ok.rlen
  have hnl := hf.ok.nlen
  have hpl := hp.len
  refine ⟨_, rfl, fl, p, rfl, hf, fun h hh => hp.2 h hh, fun sp hsp => ⟨_, rfl, le_ok, _, rfl, ?_⟩⟩
  have hspl := hsp.len
  refine ⟨_, rfl, fl, rfl, hf.ok, _, rfl, ?_⟩
  refine for_inv (fun i ρ => ∃ c d, ρ = [some (.dat (.d (eFl fl))), some (.dat (.d (eP p))), some (.dat (.d (ePins pins))), c, some (.dat (.d (eL eN sp))), some (.lst (((((lsOf fl.names fl.rs).take i).filter fun l => decide (CanE fl.rs p pins l)).map fun l => (l, edt fl.rs p l)).map (e2 eLs eP))), d]) ⟨_, _, rfl⟩ ?_ ?_
  · rintro i x ρ hi ⟨c, d, rfl⟩ nx hn
    have hmem : x ∈ lsOf fl.names fl.rs := List.mem_of_getElem? hi
    have hls := ls_ok hmem hf.ok
    have hxb := hls.le
    have hge := endOf_ge hls
    have hen := (endOf_le fl.rs x).1
    have htk : (lsOf fl.names fl.rs).take (i + 1) = (lsOf fl.names fl.rs).take i ++ [x] := by rw [List.take_succ, hi]; rfl
    refine ⟨lt_ok, _, rfl, _, rfl, _, rfl, fl, x, rfl, _, rfl, ?_⟩
    have hcut : DL.cutD (sp.map eN) (some ((x.2 : Nat) : Int)) (some (((endOf fl.rs x : Nat) : Int) + 1)) = ((sp.drop x.2).take (endOf fl.rs x + 1 - x.2)).map eN := by
      have := cut_bothE (l := sp) (b := x.2) (e := endOf fl.rs x + 1) (by omega) (by omega)
      rw [← this]; rfl
    generalize hs : (sp.drop x.2).take (endOf fl.rs x + 1 - x.2) = s at hcut
    have hslen : s.length ≤ 101 := by rw [← hs, List.length_take, List.length_drop]; omega
    have hsame := same_iff hsp hge hen
    rw [hs] at hsame
    refine ⟨_, rfl, lt_ok, ?_⟩
    rw [hcut]
    have no : ¬ CanE fl.rs p pins x → nx [some (.dat (.d (eFl fl))), some (.dat (.d (eP p))), some (.dat (.d (ePins pins))), some (.dat (.d (eLs x))), some (.dat (.d (eL eN sp))), some (.lst (((((lsOf fl.names fl.rs).take i).filter fun l => decide (CanE fl.rs p pins l)).map fun l => (l, edt fl.rs p l)).map (e2 eLs eP))), some (.lst (s.map eN))] := fun h => hn _ ⟨_, _, by rw [htk, List.filter_append, List.filter_cons_of_neg (by simpa using h), List.filter_nil, List.append_nil]⟩
    refine ⟨_, rfl, _, rfl, ifd (fun h1 => ?_) fun h1 => no fun c => h1 (by have := c.1; omega)⟩
    refine ⟨Nat.le_trans (okLs.dep x) (by decide), _, rfl, ?_⟩
    refine ife (notin_ls pins x) (fun h2 => ?_) fun h2 => no fun c => h2 c.2.1
    have hcut2 : DL.cutD (s.map eN) none (some 1) = (s.take 1).map eN := (cut_to (s.map eN) 1).trans (List.map_take ..).symm
    have hrep : (List.replicate (((s.map eN).length : Nat) : Int).toNat ((s.take 1).map eN)).flatten = ((List.replicate s.length (s.take 1)).flatten).map eN := by
      rw [Int.toNat_natCast, List.length_map, rep_E]
    have hd1 : ∀ z : List Nat, (PyData.list (z.map eN)).depth ≤ 60 := fun z => Nat.le_trans ((okd_L okd_nat).dep z) (by decide)
    have b1 : -(2 ^ 63) ≤ (((s.map eN).length : Nat) : Int) ∧ (((s.map eN).length : Nat) : Int) < 2 ^ 63 := by rw [List.length_map]; omega
    have b3 : (DL.cutD (s.map eN) none (some 1)).length * (((s.map eN).length : Nat) : Int).toNat ≤ sizeLine := by
      rw [hcut2, List.length_map, List.length_map, Int.toNat_natCast, List.length_take]
      exact Nat.le_trans (Nat.mul_le_mul (Nat.min_le_left 1 _) hslen) (by decide)
    refine ⟨_, rfl, b1.1, b1.2, b3, Nat.le_trans (Nat.min_le_left _ _) (hd1 s), _, rfl, ?_⟩
    rw [hcut2, hrep, eqv_L]
    refine ifd (fun h3 => ?_) fun h3 => no fun c => h3 (hsame.mpr c.2.2)
    have hcan : CanE fl.rs p pins x := ⟨by omega, h2, hsame.mp h3⟩
    refine ⟨_, _, rfl, _, rfl, fl, p, x, rfl, hr, by omega, hcan.1, _, rfl, le_ok, _, rfl, _, rfl, ?_, hn _ ⟨some (.dat (.d (eLs x))), some (.lst (s.map eN)), ?_⟩⟩
    · have h1 := List.length_filter_le (fun l => decide (CanE fl.rs p pins l)) ((lsOf fl.names fl.rs).take i)
      have h2 : ((lsOf fl.names fl.rs).take i).length ≤ 200 := by rw [List.length_take, ls_len]; omega
      rw [List.length_map, List.length_map]
      exact Nat.lt_of_le_of_lt (Nat.le_trans h1 h2) (by decide)
    · rw [htk, List.filter_append, List.filter_cons_of_pos (by simpa using hcan), List.filter_nil, List.map_append, List.map_append]
      rfl
  · rintro ρ ⟨c, d, rfl⟩
    rw [List.take_length]
    exact ⟨_, _, rfl, q⟩
abbrev F_law_depths : Pr := fun ds R => ∃ (f : Flt) (p : List Nat) (pins : List Lease), ds = [.d (eFl f), .d (eP p), .d (ePins pins)] ∧ Dr f ∧ f.rs.length ≤ 10 ∧ PlanOk f.rs.length p ∧ R (.k (dictP (bfs 2000 (nbr f pins) p)))
theorem len_law_depths : ∀ ds R, F_law_depths ds R → ds.length = 3 := by
  rintro ds R ⟨f, p, pins, rfl, _⟩; rfl
/-! _law_depths: slots 0 _law_fleet_here, 1 _law_plan_here, 2 _law_pins_here, 3 _law_found, 4 _law_line, 5 _law_at, 6 _law_lease, 7 _law_later -/
abbrev nm_law_depths : List Str := ["_law_fleet_here", "_law_plan_here", "_law_pins_here", "_law_found", "_law_line", "_law_at", "_law_lease", "_law_later"]
theorem sc_law_depths : FnScope nm_law_depths ["_law_fleet_here", "_law_plan_here", "_law_pins_here"] (defScope (topS 67)) := ⟨rfl, rfl, rfl, by decide +kernel, rfl, by decide +kernel, by decide +kernel⟩
theorem ok_law_depths {f : Addr} {fd : FuncData} {k : Nat} (F : Fun K "_law_depths" "_law_depths" (topS 67) f fd) (gx : mg "_law_depths" = some (.ref f)) (b : Binds K fd ["_law_fleet_here", "_law_plan_here", "_law_pins_here"] []) (M : Blt mg) (C_law_near : Cal P w K mg base k "_law_near" 3 F_law_near) :
    Cal P w K mg base (k + 1) "_law_depths" 3 F_law_depths := by
  refine cal_of F gx b sc_law_depths rfl len_law_depths fun cdv A outer s H E hr => ⟨_, (dss_cons (ds_par3 (i := 3) (j := 4) (l := 5) rfl sc_law_depths.nd rfl rfl rfl (by decide) (by decide) (by decide) rfl rfl rfl (da_cons (de_dict1 hr.hu (de_var 1) de_int) (da_cons (de_lst (da_cons (de_var 1) da_nil)) (da_cons de_int da_nil))) (by rfl)) (dss_cons (ds_while PassesOwn.never (dt_cmp od_lt (de_var 5) (de_len rfl rfl M.len (da_cons (de_var 4) da_nil))) (dss_cons (ds_for PassesOwn.never rfl (di_list (de_fn C_law_near hr (Nat.le_refl _) rfl (da_cons (de_var 0) (da_cons (de_ix (de_var 4) (de_var 5)) (da_cons (de_var 2) da_nil))))) (dg_pair (i := 6) (j := 7) rfl sc_law_depths.nd rfl rfl (.inl rfl) (.inl rfl)) (dss_one (ds_if (dt_cmp (od_notinD hr.hu) (de_var 7) (de_var 3)) (dss_cons (ds_putD hr.hu (de_op od_add (de_ixD hr.hu (de_var 3) (de_ix (de_var 4) (de_var 5))) de_int) (de_var 3) (de_var 7)) (dss_one (ds_expr (de_append rfl (de_var 4) (da_cons (de_var 7) da_nil))))) dss_nil))) (dss_one (ds_augAdd (i := 5) sc_law_depths.nd rfl (.inl rfl) de_int)))) (dss_one (ds_ret (de_var 3))))), ?_⟩
  rintro ds R ⟨fl, p, pins, rfl, hf, h10, hp, q⟩
  refine ⟨_, _, rfl, okkP.key p, rfl, _, rfl, le_ok, _, rfl, ?_⟩
  refine ⟨fun m ρ => ∃ fd i d e, m = 2000 - i ∧ i ≤ fd.length ∧ BfsOk (PlanOk fl.rs.length) fd ∧ bfsRun (nbr fl pins) (2000 - i) fd i = bfs 2000 (nbr fl pins) p ∧
    ρ = [some (.dat (.d (eFl fl))), some (.dat (.d (eP p))), some (.dat (.d (ePins pins))), some (.dct (dictP fd)), some (.lst (waitE fd)), some (.dat (.d (eN i))), d, e],
    ⟨_, [(p, 0)], 0, _, _, rfl, Nat.zero_le _, ⟨by simp, fun x hx => by rw [List.mem_singleton.mp hx]; exact hp⟩, rfl, rfl⟩, ?_⟩
  rintro m ρ ⟨fd, i, d, e, rfl, hi, ok, run, rfl⟩
  have hfew : fd.length ≤ 1024 := by
    have h1 := plans_few (n := fl.rs.length) (l := fd.map (·.1)) ok.nd fun x hx => by
      obtain ⟨y, hy, rfl⟩ := List.mem_map.mp hx
      exact ok.ok y hy
    rw [List.length_map] at h1
    exact Nat.le_trans h1 (two10 h10)
  refine ⟨_, rfl, ifd (fun h => ?_) fun h => ?_⟩
  · have hlt : i < fd.length := by simpa using h
    obtain ⟨⟨here, dep⟩, hx⟩ : ∃ x, fd[i]? = some x := ⟨_, List.getElem?_eq_getElem hlt⟩
    have hok : PlanOk fl.rs.length here := ok.ok _ (List.mem_of_getElem? hx)
    have hw : (fd.map (·.1))[i]? = some here := by rw [List.getElem?_map, hx]; rfl
    have e1 : 2000 - i = (2000 - (i + 1)) + 1 := by omega
    rw [e1, bfsRun, hx] at run
    refine ⟨_, atI_map hw, _, rfl, fl, here, pins, rfl, hf, hok, _, rfl, ?_⟩
    refine for_fold (fun fd' ρ => (∃ t, fd' = fd ++ t) ∧ BfsOk (PlanOk fl.rs.length) fd' ∧ ∃ d e, ρ = [some (.dat (.d (eFl fl))), some (.dat (.d (eP p))), some (.dat (.d (ePins pins))), some (.dct (dictP fd')), some (.lst (waitE fd')), some (.dat (.d (eN i))), d, e])
      (fun fd' (x : Lease × List Nat) => add1 dep fd' x.2) _ fd _ ⟨⟨[], by simp⟩, ok, _, _, rfl⟩ ?_ ?_
    · rintro ⟨l, later⟩ fd' ρ hl0 ⟨⟨t, ht⟩, ok', d, e, rfl⟩ nx hn
      obtain ⟨l2, hl, e0⟩ := List.mem_map.mp hl0
      injection e0 with e01 e02
      subst e01 e02
      have hl2 := List.mem_filter.mp hl
      have hc : CanE fl.rs here pins l2 := of_decide_eq_true hl2.2
      have hls := ls_ok hl2.1 hf.ok
      have hok2 := edt_ok hok hls hc.1
      have okn := ok'.add1 dep hok2
      obtain ⟨t2, ht2⟩ := add1_pre dep fd' (edt fl.rs here l2)
      have hpre : ∃ t, add1 dep fd' (edt fl.rs here l2) = fd ++ t := ⟨t ++ t2, by rw [ht2, ht, List.append_assoc]⟩
      have hmem : (here, dep) ∈ fd' := by rw [ht]; exact List.mem_append_left _ (List.mem_of_getElem? hx)
      have hw' : (fd'.map (·.1))[i]? = some here := by
        rw [ht, List.map_append, List.getElem?_append_left (by rw [List.length_map]; exact hlt)]; exact hw
      have hfew2 : fd'.length ≤ 1024 := by
        have h1 := plans_few (n := fl.rs.length) (l := fd'.map (·.1)) ok'.nd fun x hx => by
          obtain ⟨y, hy, rfl⟩ := List.mem_map.mp hx
          exact ok'.ok y hy
        rw [List.length_map] at h1
        exact Nat.le_trans h1 (two10 h10)
      refine ⟨_, _, rfl, lt_ok, lt_ok, _, _, rfl, rfl, okkP.key _, _, rfl, ?_⟩
      refine ife (p := edt fl.rs here l2 ∉ fd'.map (·.1)) (dp := inferInstance) ?_ (fun hm => ?_) fun hm => ?_
      · rw [decide_not, ← dictP_some]; rfl
      · refine ⟨_, atI_map hw', _, rfl, okkP.key here, .inl ⟨_, _, rfl, dictP_at ok'.nd hmem, _, rfl, _, _, rfl, _, _, rfl, okkP.key _, rfl, ?_, ?_⟩⟩
        · simp only [List.length_map]; omega
        · refine ⟨_, _, rfl, _, rfl, _, rfl, ?_, hn _ ⟨hpre, okn, some (.dat (.d (eLs l2))), some (.dat (.d (eP (edt fl.rs here l2)))), ?_⟩⟩
          · simp only [List.length_map]; exact Nat.lt_of_le_of_lt hfew2 (by decide)
          · have e3 : add1 dep fd' (edt fl.rs here l2) = fd' ++ [(edt fl.rs here l2, dep + 1)] := by unfold add1; rw [if_neg hm]
            have e4 := dictP_put (d := dep + 1) hm
            show _ = [_, _, _, some (Cell.dct (dictP (add1 dep fd' (edt fl.rs here l2)))), some (Cell.lst (((add1 dep fd' (edt fl.rs here l2)).map (·.1)).map eP)), _, _, _]
            rw [e3, ← e4]
            rw [List.map_append, List.map_append]
            rfl
      · refine hn _ ⟨hpre, okn, some (.dat (.d (eLs l2))), some (.dat (.d (eP (edt fl.rs here l2)))), ?_⟩
        have e3 : add1 dep fd' (edt fl.rs here l2) = fd' := by unfold add1; rw [if_pos (Classical.not_not.mp hm)]
        show _ = [_, _, _, some (Cell.dct (dictP (add1 dep fd' (edt fl.rs here l2)))), some (Cell.lst (((add1 dep fd' (edt fl.rs here l2)).map (·.1)).map eP)), _, _, _]
        rw [e3]
        rfl
    · rintro ρ ⟨⟨t, ht⟩, ok', d, e, rfl⟩
      have hfold : (((lsOf fl.names fl.rs).filter fun l => decide (CanE fl.rs here pins l)).map fun l => (l, edt fl.rs here l)).foldl (fun fd' (x : Lease × List Nat) => add1 dep fd' x.2) fd = (nbr fl pins here).foldl (add1 dep) fd := by
        unfold nbr
        rw [List.foldl_map, List.foldl_map]
      rw [hfold] at ht ok'
      rw [hfold]
      refine ⟨_, rfl, _, rfl, lt_ok, _, ?_, _, i + 1, _, _, rfl, ?_, ok', run, rfl⟩
      · omega
      rw [ht, List.length_append]; omega
  · have hge : i = fd.length := by
      have h : ¬ i < fd.length := by simpa using h
      omega
    have hfin : fd = bfs 2000 (nbr fl pins) p := by
      rw [← run]
      have e1 : 2000 - i = (2000 - (i + 1)) + 1 := by omega
      rw [e1, bfsRun, List.getElem?_eq_none (by omega)]
    rw [← hfin] at q
    exact ⟨_, _, rfl, q⟩
abbrev F_law_led : Pr := fun ds R => ∃ (f : Flt) (pins : List Lease) (p : List Nat) (ls : List Lease), ds = [.d (eFl f), .d (ePins pins), .d (eP p), .d (ePins ls)] ∧ Dr f ∧ PlanOk f.rs.length p ∧
  (∀ i l, ls[i]? = some l → l ∈ lsOf f.names f.rs ∧ CanE f.rs ((ls.take i).foldl (edt f.rs) p) pins l) ∧ R (.d (eP (ls.foldl (edt f.rs) p)))
theorem len_law_led : ∀ ds R, F_law_led ds R → ds.length = 4 := by
  rintro ds R ⟨f, pins, p, ls, rfl, _⟩; rfl
/-! _law_led: slots 0 _law_fleet_here, 1 _law_pins_here, 2 _law_plan_here, 3 _law_script, 4 _law_leases_here, 5 _law_lease, 6 _law_some_here -/
abbrev nm_law_led : List Str := ["_law_fleet_here", "_law_pins_here", "_law_plan_here", "_law_script", "_law_leases_here", "_law_lease", "_law_some_here"]
theorem sc_law_led : FnScope nm_law_led ["_law_fleet_here", "_law_pins_here", "_law_plan_here", "_law_script"] (defScope (topS 69)) := ⟨rfl, rfl, rfl, by decide +kernel, rfl, by decide +kernel, by decide +kernel⟩
theorem ok_law_led {f : Addr} {fd : FuncData} {k : Nat} (F : Fun K "_law_led" "_law_led" (topS 69) f fd) (gx : mg "_law_led" = some (.ref f)) (b : Binds K fd ["_law_fleet_here", "_law_pins_here", "_law_plan_here", "_law_script"] []) (M : Blt mg) (C_law_end : Cal P w K mg base k "_law_end" 2 F_law_end) (C_law_exchanged : Cal P w K mg base k "_law_exchanged" 3 F_law_exchanged) (C_law_leases : Cal P w K mg base k "_law_leases" 1 F_law_leases) (C_law_stands : CalT P w K mg base k "_law_stands" 2 F_law_stands) :
    Cal P w K mg base (k + 1) "_law_led" 4 F_law_led := by
  refine cal_of F gx b sc_law_led rfl len_law_led fun cdv A outer s H E hr => ⟨_, (dss_cons (ds_set (i := 4) sc_law_led.nd rfl (.inl rfl) (de_fn C_law_leases hr (Nat.le_refl _) rfl (da_cons (de_var 0) da_nil))) (dss_cons (ds_for PassesOwn.never rfl (di_tup (de_var 3)) (dg_name (i := 5) sc_law_led.nd rfl (.inl rfl)) (dss_cons (ds_if (dt_cmp (od_notin hr.hu) (de_var 5) (de_var 4)) (dss_one (ds_ret de_non)) dss_nil) (dss_cons (ds_set (i := 6) sc_law_led.nd rfl (.inl rfl) (de_sl (de_fnT1 C_law_stands hr (Nat.le_refl _) rfl (da_cons (de_var 0) (da_cons (de_var 2) da_nil)) de_int) (do_yes (de_ix (de_var 5) de_int)) (do_yes (de_op od_add (de_fn C_law_end hr (Nat.le_refl _) rfl (da_cons (de_var 0) (da_cons (de_var 5) da_nil))) de_int)))) (dss_cons (ds_if (dt_w (dw_or (dt_cmp (od_eq hr.hu) (de_ix (de_var 5) de_int) de_int) (dw_or (dt_cmp (od_in hr.hu) (de_var 5) (de_var 1)) (dw_or1 (dt_cmp (od_ne hr.hu) (de_var 6) (de_op od_rep (de_sl (de_var 6) do_no (do_yes de_int)) (de_len rfl rfl M.len (da_cons (de_var 6) da_nil)))))))) (dss_one (ds_ret de_non)) dss_nil) (dss_one (ds_set (i := 2) sc_law_led.nd rfl (.inl rfl) (de_fn C_law_exchanged hr (Nat.le_refl _) rfl (da_cons (de_var 0) (da_cons (de_var 2) (da_cons (de_var 5) da_nil)))))))))) (dss_one (ds_ret (de_var 2))))), ?_⟩
  rintro ds R ⟨fl, pins, p, ls, rfl, hf, hp, hls0, q⟩
  have hr := hf.ok.rlen
  have hnl := hf.ok.nlen
  refine ⟨_, rfl, fl, rfl, hf.ok, _, rfl, lt_ok, _, rfl, ?_⟩
  refine for_inv (fun i ρ => PlanOk fl.rs.length ((ls.take i).foldl (edt fl.rs) p) ∧ ∃ c d, ρ = [some (.dat (.d (eFl fl))), some (.dat (.d (ePins pins))), some (.dat (.d (eP ((ls.take i).foldl (edt fl.rs) p)))), some (.dat (.d (ePins ls))), some (.dat (.d (eL eLs (lsOf fl.names fl.rs)))), c, d]) ⟨hp, _, _, rfl⟩ ?_ ?_
  · rintro i x ρ hi ⟨hok, c, d, rfl⟩ nx hn
    obtain ⟨hmem, hcan⟩ := hls0 i x hi
    have hls := ls_ok hmem hf.ok
    have hxb := hls.le
    have hge := endOf_ge hls
    have hen := (endOf_le fl.rs x).1
    have hpl := hok.len
    have htk : ls.take (i + 1) = ls.take i ++ [x] := by rw [List.take_succ, hi]; rfl
    have hok2 := edt_ok hok hls hcan.1
    have hfold : (ls.take (i + 1)).foldl (edt fl.rs) p = edt fl.rs ((ls.take i).foldl (edt fl.rs) p) x := by rw [htk, List.foldl_append]; rfl
    generalize hpi : (ls.take i).foldl (edt fl.rs) p = pi at *
    refine ⟨lt_ok, Nat.le_trans (okLs.dep x) (by decide), _, rfl, ?_⟩
    refine ife (notin_ls (lsOf fl.names fl.rs) x) (fun h => absurd hmem h) fun _ => ?_
    refine ⟨_, rfl, fl, pi, rfl, hf, fun h hh => hok.2 h hh, fun sp hsp => ⟨_, rfl, _, rfl, _, rfl, fl, x, rfl, _, rfl, ?_⟩⟩
    have hspl := hsp.len
    have hcut : DL.cutD (sp.map eN) (some ((x.2 : Nat) : Int)) (some (((endOf fl.rs x : Nat) : Int) + 1)) = ((sp.drop x.2).take (endOf fl.rs x + 1 - x.2)).map eN := by
      have := cut_bothE (l := sp) (b := x.2) (e := endOf fl.rs x + 1) (by omega) (by omega)
      rw [← this]; rfl
    generalize hs : (sp.drop x.2).take (endOf fl.rs x + 1 - x.2) = s at hcut
    have hslen : s.length ≤ 101 := by rw [← hs, List.length_take, List.length_drop]; omega
    have hsame := same_iff hsp hge hen
    rw [hs] at hsame
    refine ⟨_, rfl, lt_ok, ?_⟩
    rw [hcut]
    have hcut2 : DL.cutD (s.map eN) none (some 1) = (s.take 1).map eN := (cut_to (s.map eN) 1).trans (List.map_take ..).symm
    have hrep : (List.replicate (((s.map eN).length : Nat) : Int).toNat ((s.take 1).map eN)).flatten = ((List.replicate s.length (s.take 1)).flatten).map eN := by
      rw [Int.toNat_natCast, List.length_map, rep_E]
    have hd1 : ∀ z : List Nat, (PyData.list (z.map eN)).depth ≤ 60 := fun z => Nat.le_trans ((okd_L okd_nat).dep z) (by decide)
    have b1 : -(2 ^ 63) ≤ (((s.map eN).length : Nat) : Int) ∧ (((s.map eN).length : Nat) : Int) < 2 ^ 63 := by rw [List.length_map]; omega
    have b3 : (DL.cutD (s.map eN) none (some 1)).length * (((s.map eN).length : Nat) : Int).toNat ≤ sizeLine := by
      rw [hcut2, List.length_map, List.length_map, Int.toNat_natCast, List.length_take]
      exact Nat.le_trans (Nat.mul_le_mul (Nat.min_le_left 1 _) hslen) (by decide)
    refine ⟨_, rfl, Nat.zero_le _, _, rfl, ?_⟩
    refine ife (okd_nat.eq x.2 0) (fun h => absurd h hcan.1) fun _ => ?_
    refine ⟨Nat.le_trans (okLs.dep x) (by decide), _, rfl, ?_⟩
    refine ife (in_ls pins x) (fun h => absurd h hcan.2.1) fun _ => ?_
    refine ⟨_, rfl, b1.1, b1.2, b3, Nat.le_trans (Nat.min_le_left _ _) (hd1 s), _, rfl, ?_⟩
    rw [hcut2, hrep, eqv_L]
    refine ifnt (hsame.mpr hcan.2.2) ?_
    exact ⟨_, rfl, fl, pi, x, rfl, hr, by omega, hcan.1, _, rfl, lt_ok, hn _ ⟨by rw [hfold]; exact hok2, some (.dat (.d (eLs x))), some (.lst (s.map eN)), by rw [hfold]; rfl⟩⟩
  · rintro ρ ⟨hok, c, d, rfl⟩
    rw [List.take_length]
    exact ⟨_, _, rfl, q⟩
end
end SH
end P16
section P17
set_option Elab.async false
set_option linter.all false
set_option maxRecDepth 100000
set_option maxHeartbeats 4000000
/-! P17: alike; texts of small things -/
namespace SH
open PySem PySem.Spec PyProof.Rows L2 DL SM
section
variable {P : Program} {w : World} {K : PySem.W.Frag} {mg : Str → Option Value} {base : Heap}
abbrev F_law_alike : Pr := fun ds R => ∃ d, ds = [.d d, .d d] ∧ Shw d ∧ PyData.eqv d d = true ∧ R (.d (.bool true))
theorem len_law_alike : ∀ ds R, F_law_alike ds R → ds.length = 2 := by
  rintro ds R ⟨d, rfl, _⟩; rfl
/-! _law_alike: slots 0 _law_found, 1 _law_due -/
abbrev nm_law_alike : List Str := ["_law_found", "_law_due"]
theorem sc_law_alike : FnScope nm_law_alike ["_law_found", "_law_due"] (defScope (topS 54)) := ⟨rfl, rfl, rfl, by decide +kernel, rfl, by decide +kernel, by decide +kernel⟩
theorem ok_law_alike {f : Addr} {fd : FuncData} {k : Nat} (F : Fun K "_law_alike" "_law_alike" (topS 54) f fd) (gx : mg "_law_alike" = some (.ref f)) (b : Binds K fd ["_law_found", "_law_due"] []) (M : Blt mg)  :
    Cal P w K mg base (k + 1) "_law_alike" 2 F_law_alike := by
  refine cal_of F gx b sc_law_alike rfl len_law_alike fun cdv A outer s H E hr => ⟨_, (dss_one (ds_ret (de_and (de_cmp (od_eq hr.hu) (de_var 0) (de_var 1)) (de_one (de_cmp (od_eq hr.hu) (de_repr hr rfl rfl M.repr (da_cons (de_var 0) da_nil)) (de_repr hr rfl rfl M.repr (da_cons (de_var 1) da_nil))))))), ?_⟩
  rintro ds R ⟨d, rfl, hs, he, q⟩
  refine ⟨Nat.le_trans (Nat.min_le_left _ _) hs.dep, _, rfl, ?_⟩
  have e1 : PyData.eqv (.str d.shown) (.str d.shown) = true := (okd_str.eq _ _).trans (by simp)
  show if PyData.eqv d d = true then _ else _
  rw [if_pos he]
  refine ⟨d, rfl, hs, d, rfl, hs, Nat.zero_le _, _, _, rfl, ?_⟩
  show R (.d (.bool (PyData.eqv (.str d.shown) (.str d.shown))))
  rw [e1]
  exact q
end
end SH
end P17
section P18
set_option Elab.async false
set_option linter.all false
set_option maxRecDepth 100000
set_option maxHeartbeats 4000000
/-! P18: check_leads, script_to: they may let NoWay out -/
namespace SH
open PySem PySem.Spec PyProof.Rows L2 DL SM
section
variable {P : Program} {w : World} {K : PySem.W.Frag} {mg : Str → Option Value} {base : Heap}
abbrev bars (rs : List Str) (pins : List Lease) (p q : List Nat) : List Lease := pins.filter fun l => decide (0 < apn rs p q l)
abbrev Fcheck_leads : Pr := fun ds R => ∃ (f : Flt) (pins : List Lease) (p q : List Nat), ds = [.d (eFl f), .d (ePins pins), .d (eP p), .d (eP q)] ∧ FlOk f ∧ (∀ l ∈ pins, l ∈ lsOf f.names f.rs) ∧ bars f.rs pins p q = [] ∧ R (.d .none)
abbrev Gcheck_leads : PrX := fun ds R => ∃ (f : Flt) (pins : List Lease) (p q : List Nat) (l : Lease) (r : List Lease), ds = [.d (eFl f), .d (ePins pins), .d (eP p), .d (eP q)] ∧ FlOk f ∧ (∀ l ∈ pins, l ∈ lsOf f.names f.rs) ∧ bars f.rs pins p q = l :: r ∧ R (eLs l)
abbrev nmcheck_leads : List Str := ["fleet", "pins", "one", "other", "bars"]
theorem sccheck_leads : FnScope nmcheck_leads ["fleet", "pins", "one", "other"] (defScope (topS 44)) := ⟨rfl, rfl, rfl, by decide +kernel, rfl, by decide +kernel, by decide +kernel⟩
theorem okcheck_leads {f C fI : Addr} {fd fdI : FuncData} {k : Nat} (F : Fun K "check_leads" "check_leads" (topS 44) f fd) (gx : mg "check_leads" = some (.ref f)) (b : Binds K fd ["fleet", "pins", "one", "other"] []) (M : Blt mg) (h1 : 1 ≤ k)
    (T : SupC P K mg C fI) (SF : SupF P K C fI fdI) (gC : mg "NoWay" = some (.ref C)) (Cbarring : Cal P w K mg base k "barring" 4 Fbarring) : CalX P w K mg base (k + 1) "check_leads" 4 C Fcheck_leads Gcheck_leads := by
  refine ⟨fun ds R ⟨_, _, _, _, e, _⟩ => by rw [e]; rfl, fun ds R ⟨_, _, _, _, _, _, e, _⟩ => by rw [e]; rfl, f, fd, _, gx, F.kp, b, fnG_of F sccheck_leads (fun vs H Q E ⟨ds, hd, hl, _⟩ => by rw [hd.length, hl]; rfl) fun cdv A outer s H vs Q E hr hsp => ?_⟩
  refine ⟨_, pss_cons (ds_set (i := 4) sccheck_leads.nd rfl (.inl rfl) (de_fn Cbarring hr (Nat.le_refl _) rfl (da_cons (de_var 0) (da_cons (de_var 1) (da_cons (de_var 2) (da_cons (de_var 3) da_nil))))))
    (pss_one (ps_if (dt_cmp (od_ne hr.hu) (de_var 4) (de_tup da_nil)) (pss_one (ps_raiseX rfl T SF gC hr h1 rfl (takes_of rfl rfl rfl rfl) (de_ix (de_var 4) de_int))) pss_nil)), ?_⟩
  obtain ⟨ds, hd, hl, hw⟩ := hsp
  obtain ⟨rep, no⟩ := rep_start (P := P) (w := w) (N := nmcheck_leads) hd
  obtain ⟨fl, pins, p, q, rfl, hf, hp, hcase⟩ : ∃ (fl : Flt) (pins : List Lease) (p q : List Nat), ds = [.d (eFl fl), .d (ePins pins), .d (eP p), .d (eP q)] ∧ FlOk fl ∧ (∀ l ∈ pins, l ∈ lsOf fl.names fl.rs) ∧
      ((bars fl.rs pins p q = [] ∧ ∀ H', Same H H' → (∀ b, H' b = none → H b = none) → Q .non H') ∨ ∃ l r, bars fl.rs pins p q = l :: r ∧ ∀ v dx H', Same H H' → (∀ b, H' b = none → H b = none) → H' dx = some (.xd [("lease", v)]) → Dv H' v (eLs l) → E (.ref C) (some dx) H') := by
    rcases hw with ⟨R, ⟨fl, pins, p, q, e, hf, hp, hb, hR⟩, hq⟩ | ⟨R, ⟨fl, pins, p, q, l, r, e, hf, hp, hb, hR⟩, hq⟩
    · exact ⟨fl, pins, p, q, e, hf, hp, .inl ⟨hb, fun H' h1 h2 => hq _ _ H' hR h1 h2 Dv.non⟩⟩
    · exact ⟨fl, pins, p, q, e, hf, hp, .inr ⟨l, r, hb, fun v dx H' h1 h2 h3 h4 => hq _ v dx H' hR h1 h2 h3 h4⟩⟩
  refine ⟨_, ⟨fun ρ1 => ρ1 = [some (.dat (.d (eFl fl))), some (.dat (.d (ePins pins))), some (.dat (.d (eP p))), some (.dat (.d (eP q))), some (.dat (.d (ePins (bars fl.rs pins p q))))], fun _ _ => False, fun _ => False, fun _ => False⟩, rep,
    ⟨_, rfl, fl, pins, p, q, rfl, hf, hp, _, rfl, lt_ok, rfl⟩, ⟨fun ρ1 σ1 H1 e1 L1 rep1 => ?_, fun _ _ _ _ _ z => z.elim, fun _ _ _ z => z.elim, fun _ _ _ z => z.elim⟩⟩
  subst e1
  have no1 : NoOwn [some (Cell.dat (.d (eFl fl))), some (.dat (.d (ePins pins))), some (.dat (.d (eP p))), some (.dat (.d (eP q))), some (.dat (.d (ePins (bars fl.rs pins p q))))] := no_of (l := [some (.d (eFl fl)), some (.d (ePins pins)), some (.d (eP p)), some (.d (eP q)), some (.d (ePins (bars fl.rs pins p q)))]) rfl
  have k1 : KeepT H H1 := ⟨fun b o e => L1.le.keep b o e (no b), L1.le.trk⟩
  have hne : (!PyData.eqv (ePins (bars fl.rs pins p q)) (.tuple [])) = decide (bars fl.rs pins p q ≠ []) := (okd_T okLs).ne (bars fl.rs pins p q) []
  refine ⟨_, fun bb ρ' => bb = decide (bars fl.rs pins p q ≠ []) ∧ ρ' = [some (Cell.dat (.d (eFl fl))), some (.dat (.d (ePins pins))), some (.dat (.d (eP p))), some (.dat (.d (eP q))), some (.dat (.d (ePins (bars fl.rs pins p q))))], rep1, ?_, fun bb ρ2 H2 e2 L2 rep2 => ?_⟩
  · refine ⟨_, rfl, le_ok, Nat.le_trans (Nat.min_le_left _ _) (Nat.le_trans ((okd_T okLs).dep _) (by decide)), _, rfl, hne, rfl⟩
  obtain ⟨e3, e4⟩ := e2
  subst e3 e4
  have k2 := k1.trans (no1.keep L2)
  rcases hcase with ⟨hb, hq⟩ | ⟨l, r, hb, hq⟩
  · rw [if_neg (by simp [hb])]
    exact hq H2 (fun b o e => k2.keep b o e) k2.trk
  · rw [if_pos (by simp [hb])]
    refine ⟨_, rep2, ?_⟩
    rw [hb]
    refine ⟨_, atI_map (l := l :: r) (i := 0) rfl, _, rfl, fun v dx H3 L3 h3 h4 => ?_⟩
    rw [hb] at no1
    have k3 := k2.trans (no1.keep L3)
    exact hq v dx H3 (fun b o e => k3.keep b o e) k3.trk h3 h4
/-- what is asked of the differences -/
structure DifOk (f : Flt) (p q : List Nat) : Prop where
  nd : (difs f p q).Nodup
  len : (difs f p q).length < 1000
  row : ∀ k, k ≤ f.rs.length → ∀ d ∈ rowAt f.rs p q k, d ∈ difs f p q
abbrev rowsOf (f : Flt) (p q : List Nat) : List (List Dif) := (List.range (f.rs.length + 1)).map (rowAt f.rs p q)
abbrev Fscript_to : Pr := fun ds R => ∃ (f : Flt) (pins : List Lease) (p q : List Nat), ds = [.d (eFl f), .d (ePins pins), .d (eP p), .d (eP q)] ∧ FlOk f ∧ (∀ l ∈ pins, l ∈ lsOf f.names f.rs) ∧ bars f.rs pins p q = [] ∧ DifOk f p q ∧
  ∀ (out : List Dif) (pr : Dif → List Dif), (∀ x y, x ∈ pr y ↔ Adj (rowsOf f p q) x y) → TopoOk (difs f p q) pr out → R (.d (ePins (out.map (·.1))))
abbrev Gscript_to : PrX := Gcheck_leads
abbrev nmscript_to : List Str := ["fleet", "pins", "one", "other", "lease", "edge"]
theorem scscript_to : FnScope nmscript_to ["fleet", "pins", "one", "other"] (defScope (topS 45)) := ⟨rfl, rfl, rfl, by decide +kernel, rfl, by decide +kernel, by decide +kernel⟩
theorem okscript_to {f C : Addr} {fd : FuncData} {k : Nat} (F : Fun K "script_to" "script_to" (topS 45) f fd) (gx : mg "script_to" = some (.ref f)) (b : Binds K fd ["fleet", "pins", "one", "other"] []) (M : Blt mg)
    (Ccheck_leads : CalX P w K mg base k "check_leads" 4 C Fcheck_leads Gcheck_leads) (Csteps_ahead : Cal P w K mg base k "steps_ahead" 3 Fsteps_ahead) (Cin_order : Cal P w K mg base k "in_order" 1 Fin_order) :
    CalX P w K mg base (k + 1) "script_to" 4 C Fscript_to Gscript_to := by
  refine ⟨fun ds R ⟨_, _, _, _, e, _⟩ => by rw [e]; rfl, fun ds R ⟨_, _, _, _, _, _, e, _⟩ => by rw [e]; rfl, f, fd, _, gx, F.kp, b, fnG_of F scscript_to (fun vs H Q E ⟨ds, hd, hl, _⟩ => by rw [hd.length, hl]; rfl) fun cdv A outer s H vs Q E hr hsp => ?_⟩
  refine ⟨_, pss_cons (ps_expr (pe_fnX Ccheck_leads hr (Nat.le_refl _) rfl (passes_call (takes_of rfl rfl rfl rfl) fun _ _ _ _ h => h) (da_cons (de_var 0) (da_cons (de_var 1) (da_cons (de_var 2) (da_cons (de_var 3) da_nil))))))
    (dss_one (ds_ret (de_tupc rfl rfl M.tuple (da_cons (de_lc rfl scscript_to.nd (di_list (de_fn Cin_order hr (Nat.le_refl _) rfl (da_cons (de_fn Csteps_ahead hr (Nat.le_refl _) rfl (da_cons (de_var 0) (da_cons (de_var 2) (da_cons (de_var 3) da_nil)))) da_nil))) (blkOk_by (own := [("lease", 4), ("edge", 5)]) (N := nmscript_to) (sc := defScope (topS 45)) (by decide +kernel)) (fun _ _ _ _ _ => (dg_pair (i := 4) (j := 5) rfl scscript_to.nd rfl rfl (.inl rfl) (.inl rfl))) (fun _ _ _ _ _ => dts_nil) (fun _ _ _ _ _ => (de_var 4))) da_nil)))), ?_⟩
  obtain ⟨ds, hd, hl, hw⟩ := hsp
  obtain ⟨rep, no⟩ := rep_start (P := P) (w := w) (N := nmscript_to) hd
  rcases hw with ⟨R, ⟨fl, pins, p, q, rfl, hf, hp, hb, hD, hR⟩, hq⟩ | ⟨R, ⟨fl, pins, p, q, l, r, rfl, hf, hp, hb, hR⟩, hq⟩
  · refine ⟨_, rep, _, rfl, .inl ⟨fun d => d = .d .none, ⟨fl, pins, p, q, rfl, hf, hp, hb, rfl⟩, fun d v H1 _ L1 rep1 _ => ?_⟩⟩
    have k1 : KeepT H H1 := ⟨fun b o e => L1.keep b o e (no b), L1.trk⟩
    refine ⟨_, ⟨fun _ => False, fun d _ => R d, fun _ => False, fun _ => False⟩, rep1, ?_, ⟨fun _ _ _ z => z.elim, fun d v ρ' σ' H' hRd L2 rep2 hv => ?_, fun _ _ _ z => z.elim, fun _ _ _ z => z.elim⟩⟩
    · refine ⟨_, rfl, fl, p, q, rfl, hf, hD.nd, hD.len, hD.row, fun pr hnd hadj => ?_⟩
      have hsub : ∀ d ∈ difs fl p q, ∀ x ∈ pr d, x ∈ difs fl p q := fun d _ x hx => by
        obtain ⟨r, hr, i, h1, _⟩ := (hadj x d).mp hx
        obtain ⟨kk, hk, rfl⟩ := List.mem_map.mp hr
        exact hD.row kk (by have := List.mem_range.mp hk; omega) x (List.mem_of_getElem? h1)
      refine ⟨_, rfl, difs fl p q, pr, rfl, hD.nd, hD.len, hsub, hnd, fun out ht => ⟨_, rfl, free_ok, ?_⟩⟩
      refine lc_Pm (f := eLs) (f2 := eEdge) (encB := eLs) (fun x : Dif => x.1) lt_ok lt_ok (by decide) rfl (fun x hx K k => k) ?_
      exact ⟨_, _, rfl, hR out pr hadj ht⟩
    · exact hq d v H' hRd (fun b o e => L2.le.keep b o (k1.keep b o e) (no b)) (fun b e => k1.trk b (L2.le.trk b e)) hv
  · refine ⟨_, rep, _, rfl, .inr ⟨R, ⟨fl, pins, p, q, l, r, rfl, hf, hp, hb, hR⟩, fun d v dx H1 hRd L1 _ h3 h4 => hq d v dx H1 hRd (fun b o e => L1.keep b o e (no b)) L1.trk h3 h4⟩⟩
end
end SH
end P18
section P19
set_option Elab.async false
set_option linter.all false
set_option maxRecDepth 100000
set_option maxHeartbeats 4000000
/-! P19: what is told, or how it is refused -/
namespace SH
open PySem PySem.Spec PyProof.Rows L2 DL SM LamX
abbrev nm_law_heard : List Str := ["_law_act", "e"]
theorem sc_law_heard : FnScope nm_law_heard ["_law_act"] (defScope (topS 73)) := ⟨rfl, rfl, rfl, by decide +kernel, rfl, by decide +kernel, by decide +kernel⟩
/-- what becomes of act(): told, or the lease of the error -/
def THeard (K : PySem.W.Frag) (C : Addr) : (XK → Hp → VK → Prop) → Hp → VK → Prop := fun tl H Q =>
  tl (fun cls d H' => PySem.W.exmOne K cls (.ref C) = some true ∧ cls = .ref C ∧ ∃ dd v, d = some dd ∧ H' dd = some (.xd [("lease", v)]) ∧ ∀ p, H' p = none → Q (.ref p) (upd H' p (.tup [.str "no way", v]))) H
    fun v H1 => ([V.str "told", v] : List V).length ≤ sizeLine ∧ ∀ p, H1 p = none → Q (.ref p) (upd H1 p (.tup [.str "told", v]))
theorem heard_gives {X : Cx} {C fI g : Addr} {cdv : Value} {q : Str} (T : SupC X.prog X.K X.mg C fI) (gC : X.mg "NoWay" = some (.ref C)) :
    GivesG X nm_law_heard "_law_heard" (defScope (topS 73)) g cdv (defBody (topS 73)) "_law_act" q (THeard X.K C) := by
  intro f c' s H Q tl act hc h
  refine ⟨_, pss_one (ps_try_first (X := (cxOf C8.CX0 X.prog X.w X.K X.mg X.base nm_law_heard "_law_heard" (defScope (topS 73)) g cdv X.A X.stack s H C8.E0).nox) (i := 1) (c := .ref C)
    (tb := fun W D σ H => σ[0]? = some (some (.ref f)) ∧ H c' = some (CodeO c' q) ∧ ∃ E : XK, (∀ cls d H', E cls d H' → W cls d σ H') ∧ tl E H (fun v H1 => ([V.str "told", v] : List V).length ≤ sizeLine ∧ ∀ p, H1 p = none → D.rt (.ref p) (upd H1 p (.tup [.str "told", v]))))
    (ts := fun a cls d => tRet (tTup (tCons (tC (.str "no way")) (tCons (tXf a cls d C "lease" (tVar 1)) tNil))))
    rfl rfl sc_law_heard.nd rfl rfl ⟨rfl, by decide, .inl gC⟩ (fun W pn xe tk => ⟨fun pins s' σ H' D I h' => ?_⟩) (fun a oe cls d pn hz hf => pss_one (ps_ret (pe_tup (pa_cons pe_str (pa_cons (pe_xf T.xf T.noF hz hf (pe_var (i := 1) rfl (.inl rfl))) pa_nil)))))), ?_⟩
  · exact (pss_one (ps_ret (pe_tup (pa_cons pe_str (pa_cons (act W pn xe _ _ tk) pa_nil))))).run pins s' σ H' D I h'
  · refine ⟨rfl, hc, _, fun cls d H1 hE => ?_, h⟩
    obtain ⟨e1, e2, dd, v, e3, e4, e5⟩ := hE
    exact ⟨e1, fun a ha => ⟨_, rfl, rfl, e2, dd, _, v, e3, e4, rfl, (show 2 ≤ sizeLine by decide), fun p hp => e5 p hp⟩⟩

theorem ext_rep {P : Program} {w : World} {H H1 : Hp} {σ : L2.St} {ρ : Sv} (R : Rep P w H σ ρ) (nd : noDct ρ) (e : ExtN H H1) : Rep P w H1 σ ρ ∧ Kp H H1 :=
  have k : Kp H H1 := ⟨fun b xs h => e b _ h fun ps z => (by cases z), fun b o u h => e b _ h fun ps z => (by cases z)⟩
  ⟨R.of k fun b m => by
    obtain ⟨xs, h⟩ := own_lst R nd m
    rw [h]
    exact e b _ h fun ps z => (by cases z), k⟩
/-- name = _law_heard(lambda: f(..)), f as told by F, G -/
theorem psl_heard {X : Cx} {T : List (Addr × Str)} {C fI g c Pt : Addr} {k m n : Nat} {fd : FuncData} {x y : Str} {j1 j2 j3 j4 : Nat} {F : Pr} {G : PrX} {params : Arguments} {e0 : Expr} {es : List Expr} {scope : Scope} {py p lpos pos p2 pos2 spos : Pos}
    (TC : SupC X.prog X.K X.mg C fI) (gC : X.mg "NoWay" = some (.ref C)) (FH : Fun X.K "_law_heard" "_law_heard" (topS 73) g fd) (gH : X.mg "_law_heard" = some (.ref g)) (bH : L2.Binds X.K fd ["_law_act"] [])
    (TB : TabB X.base X.mg c Pt) (hcode : X.env.code = .ref c) (hmT : (Pt, X.env.qual ++ "<lambda>") ∈ T) (hu : ∀ p ∈ T, p.1 = Pt → p.2 = X.env.qual ++ "<lambda>") (hr : RoomG (k + 2) X.A) (L : LamS X.env.scope scope) (hdef : defaultsOf params X.env = ([], []))
    (hbind : ∀ (q : Str) (cl : List (Str × Addr)) (pm cv ctv : Value), bindArgs (PySem.W.kla_fn "<lambda>" q params (.Call (.Name x p2) (e0 :: es) [] pos2) scope cl pm cv ctv) ⟨[], []⟩ = pure [])
    (CX : CalX X.prog X.w X.K X.mg X.base k x n C F G) (hgx : ∀ (A : Around) (outer : List Env) (s : Shared) (H : Hp) (E : XK) (f c' : Addr), Gl (lamCx X A outer s H E scope f c') x)
    (ha : ∀ (A : Around) (outer : List Env) (s : Shared) (H : Hp) (E : XK) (f c' : Addr), DA (lamCx X A outer s H E scope f c') (e0 :: es) (aCons (eVar j1) (aCons (eVar j2) (aCons (eVar j3) (aCons (eVar j4) aNil)))))
    (he : ∀ (A : Around) (outer : List Env) (s : Shared) (H : Hp) (E : XK) (f c' : Addr), starEach (e0 :: es) (lamCx X A outer s H E scope f c').env = (false, eval e0 (lamCx X A outer s H E scope f c').env) :: starEach es (lamCx X A outer s H E scope f c').env)
    (hpl : ∀ (A : Around) (outer : List Env) (s : Shared) (H : Hp) (E : XK) (f c' : Addr), (backTo pos2 (starEach es (lamCx X A outer s H E scope f c').env)).any (·.1) = false)
    (hg : Gl X "_law_heard") (hN : X.N.Nodup) (hi : X.N[m]? = some y) (hy : Loc X.env.scope y) (hdx : (x == ("__debug__" : Str)) = false := by decide) (hs : swapsWith (.Call (.Name "_law_heard" p) [.Lambda params (.Call (.Name x p2) (e0 :: es) [] pos2) scope lpos] [] pos) (some (.Name y py)) spos.line X.env = pure false := by rfl)
    (hf : X.fn y = true ∨ X.env.scope.names.lookup y = some .local := by first | exact .inl rfl | exact .inr rfl | assumption) :
    PS X (.Assign [.Name y py] (.Call (.Name "_law_heard" p) [.Lambda params (.Call (.Name x p2) (e0 :: es) [] pos2) scope lpos] [] pos) spos) (rdL X.prog X.w T fun ρ R => noDct ρ ∧ m < ρ.length ∧ ∃ d1 d2 d3 d4, ρ[j1]? = some (some (.dat d1)) ∧ ρ[j2]? = some (some (.dat d2)) ∧ ρ[j3]? = some (some (.dat d3)) ∧ ρ[j4]? = some (some (.dat d4)) ∧
      ((∃ R1, F [d1, d2, d3, d4] R1 ∧ ∀ d, R1 d → ∃ z, d = .d z ∧ R (ρ.set m (some (.dat (.d (.tuple [.str "told", z])))))) ∨ ∃ RX, G [d1, d2, d3, d4] RX ∧ ∀ z, RX z → R (ρ.set m (some (.dat (.d (.tuple [.str "no way", z]))))))) := by
  refine PS.imp (ps_set hN hi hy (pe_lamcallG (k := k) (TT := THeard X.K C) (t := fun E => tFnX X.prog X.w C (aCons (eVar j1) (aCons (eVar j2) (aCons (eVar j3) (aCons (eVar j4) aNil)))) F G E) hg gH FH bH sc_law_heard rfl (.inl rfl) (fun cdv => heard_gives TC gC) TB hcode hmT hu hr L hdef hbind
    (fun A outer s H E f c' hr2 => pe_fnX CX hr2 (Nat.le_refl _) (hgx A outer s H E f c') (passes_call (takes_of rfl rfl rfl rfl) fun _ _ _ _ h => h) (ha A outer s H E f c') hdx (he A outer s H E f c') (hpl A outer s H E f c'))) hs hf) fun D σ H ⟨ρ, R, rep, tb, ⟨nd, hm, d1, d2, d3, d4, h1, h2, h3, h4, hA⟩, t⟩ => ⟨tb, fun H1 eN tb1 => ?_⟩
  obtain ⟨rep1, k1⟩ := ext_rep rep nd eN
  -- the pair is laid and stored
  have fin : ∀ {z : PyData} {v : V} {H2 : Hp} {str : Str}, Le (ownA σ ρ) H1 (ownA σ ρ) H2 → Rep X.prog X.w H2 σ ρ → Dv H2 v z → R (ρ.set m (some (.dat (.d (.tuple [.str str, z]))))) → ∀ p, H2 p = none → D.nx (σ.set m (some (.ref p))) (upd H2 p (.tup [.str str, v])) := by
    intro z v H2 str le rep2 hv hR p hp
    have k2 := rep1.kp le
    have k3 : Kp H2 (upd H2 p (.tup [.str str, v])) := kp_laid hp
    refine t _ _ _ hR ((rep2.laid hp).store (Hs := H2) (x := .dat (.d (.tuple [.str str, z]))) hm (Dv.tup upd_same (.cons (.str _) (.cons (hv.keep k3) .nil))) rfl) ((tabs_le rep1 nd le tb1).ext fun b o e => ?_) ((k1.trans k2).trans k3)
    rw [upd_ne (ne_of_none e hp)]; exact e
  refine ⟨ρ, rep1, ?_⟩
  have ev : ∀ {j : Nat} {d : Dt} {Q : Dx → Sv → Prop}, ρ[j]? = some (some (.dat d)) → Q (.dat d) ρ → eVar j ρ Q := fun h q => by
    unfold eVar
    rw [h]
    exact q
  refine ev h1 (ev h2 (ev h3 (ev h4 ⟨_, rfl, ?_⟩)))
  rcases hA with ⟨R1, hF, hq⟩ | ⟨RX, hG, hq⟩
  · refine .inl ⟨R1, hF, fun d v H2 hd le rep2 hv => ⟨show 2 ≤ sizeLine by decide, fun p hp => ?_⟩⟩
    obtain ⟨z, rfl, hR⟩ := hq d hd
    exact fin le rep2 hv hR p hp
  · refine .inr ⟨RX, hG, fun z v dx H2 hz le rep2 hx hv => ⟨TC.te, rfl, dx, v, rfl, hx, fun p hp => ?_⟩⟩
    exact fin le rep2 hv (hq z hz) p hp
end SH
end P19
section P20
set_option Elab.async false
set_option linter.all false
set_option maxRecDepth 100000
set_option maxHeartbeats 4000000
/-! P20: the mathematics, of the fleet's own leases, edits, differences -/
namespace SH
open PySem PySem.Spec PyProof.Rows L2 DL SM
theorem rs_mem {rs : List Str} {s : Str} {i : Nat} : i ∈ rsOf rs s ↔ rs[i]? = some s := by
  unfold rsOf
  rw [List.mem_map]
  constructor
  · rintro ⟨⟨t, j⟩, h, e⟩
    obtain ⟨h1, h2⟩ := List.mem_filter.mp h
    have h3 := List.mem_zipIdx_iff_getElem?.mp h1
    have e : j = i := e
    subst e
    rw [← of_decide_eq_true h2]
    exact h3
  · intro h
    exact ⟨(s, i), List.mem_filter.mpr ⟨List.mem_zipIdx_iff_getElem?.mpr h, decide_eq_true rfl⟩, rfl⟩
theorem zip_sorted {α : Type} : ∀ (l : List α) (k : Nat), (l.zipIdx k).Pairwise fun a b => a.2 < b.2
  | [], _ => List.Pairwise.nil
  | x :: l, k => by
    rw [List.zipIdx_cons]
    refine List.pairwise_cons.mpr ⟨fun y hy => ?_, zip_sorted l (k + 1)⟩
    have := List.le_snd_of_mem_zipIdx hy
    show k < y.2
    omega
theorem rs_sorted (rs : List Str) (s : Str) : (rsOf rs s).Pairwise (· < ·) := by
  unfold rsOf
  exact List.pairwise_map.mpr ((zip_sorted rs 0).filter _)
theorem ens_of {f : Flt} {l : Lease} (h : IsLs f l) : Ens f.rs l (endOf f.rs l) := by
  refine ⟨(endOf_le f.rs l).1, ?_, fun i h1 h2 h3 => ?_, fun h => ((endOf_le f.rs l).2 h).2⟩
  · rcases Nat.lt_or_ge (endOf f.rs l) f.rs.length with h1 | h1
    · exact ((endOf_le f.rs l).2 h1).1
    · exact Nat.le_trans h.le h1
  · have hm : i ∈ (rsOf f.rs l.1).filter fun i => decide (l.2 ≤ i) := List.mem_filter.mpr ⟨rs_mem.mpr h3, decide_eq_true h1⟩
    have hs := (rs_sorted f.rs l.1).filter fun i => decide (l.2 ≤ i)
    unfold endOf at h2
    generalize (rsOf f.rs l.1).filter (fun i => decide (l.2 ≤ i)) = r at hm hs h2
    cases r with
    | nil => cases hm
    | cons a r =>
      have h2 : i < a := h2
      rcases List.mem_cons.mp hm with e | e
      · omega
      · have := (List.pairwise_cons.mp hs).1 i e
        omega
theorem lbeg_zero {rs : List Str} {s : Str} : ∀ k, (∀ i, i < k → rs[i]? ≠ some s) → lbeg rs s k = 0
  | 0, _ => rfl
  | k + 1, h => by
    rw [lbeg, if_neg (h k (Nat.lt_succ_self k))]
    exact lbeg_zero k fun i hi => h i (by omega)
theorem lbeg_is {rs : List Str} {s : Str} {i : Nat} (hi : rs[i]? = some s) : ∀ k, i < k → (∀ j, i < j → j < k → rs[j]? ≠ some s) → lbeg rs s k = i + 1
  | 0, h, _ => absurd h (Nat.not_lt_zero _)
  | k + 1, h, hn => by
    rcases Nat.lt_or_eq_of_le (Nat.le_of_lt_succ h) with h1 | h1
    · rw [lbeg, if_neg (hn k h1 (Nat.lt_succ_self k))]
      exact lbeg_is hi k h1 fun j a b => hn j a (by omega)
    · subst h1
      rw [lbeg, if_pos hi]
theorem leaseIn_is (rs : List Str) (s : Str) (k : Nat) : leaseIn rs s k = (s, lbeg rs s k) := by
  unfold leaseIn
  refine Prod.ext rfl ?_
  show ((((rsOf rs s).filter fun i => decide (i < k)).getLast?.map (· + 1)).getD 0) = _
  have hs := (rs_sorted rs s).filter fun i => decide (i < k)
  have hm : ∀ i, i ∈ (rsOf rs s).filter (fun i => decide (i < k)) ↔ rs[i]? = some s ∧ i < k := fun i => by
    rw [List.mem_filter, rs_mem]
    simp
  generalize (rsOf rs s).filter (fun i => decide (i < k)) = r at hs hm
  cases e : r.getLast? with
  | none =>
    rw [List.getLast?_eq_none_iff.mp e] at hm
    rw [lbeg_zero k fun i hi h => by simpa using (hm i).mpr ⟨h, hi⟩]
    rfl
  | some a =>
    obtain ⟨r', rfl⟩ := List.getLast?_eq_some_iff.mp e
    have ha := (hm a).mp (by simp)
    rw [lbeg_is ha.1 k ha.2 fun j h1 h2 h3 => ?_]
    · rfl
    · have hj := (hm j).mpr ⟨h3, h2⟩
      rcases List.mem_append.mp hj with h | h
      · have := (List.pairwise_append.mp hs).2.2 j h a (by simp)
        omega
      · rw [List.mem_singleton.mp h] at h1
        exact absurd h1 (Nat.lt_irrefl _)
theorem row_is (rs : List Str) (p q : List Nat) (k : Nat) : rowAt rs p q k = row rs p q k := by
  unfold rowAt row ent
  exact List.map_congr_left fun e _ => by rw [leaseIn_is]
theorem ls_iff {f : Flt} {l : Lease} : l ∈ lsOf f.names f.rs ↔ (l.2 = 0 ∧ l.1 ∈ f.names) ∨ ∃ j, l.2 = j + 1 ∧ f.rs[j]? = some l.1 := by
  unfold lsOf
  rw [(srtE_perm eLs _).mem_iff]
  unfold rawLs
  rw [List.mem_append, List.mem_map, List.mem_map]
  refine or_congr ⟨?_, ?_⟩ ⟨?_, ?_⟩
  · rintro ⟨s, h, rfl⟩; exact ⟨rfl, h⟩
  · rintro ⟨h1, h2⟩; exact ⟨l.1, h2, Prod.ext rfl h1.symm⟩
  · rintro ⟨⟨s, j⟩, h, rfl⟩; exact ⟨j, rfl, List.mem_zipIdx_iff_getElem?.mp h⟩
  · rintro ⟨j, h1, h2⟩; exact ⟨(l.1, j), List.mem_zipIdx_iff_getElem?.mpr h2, Prod.ext rfl h1.symm⟩
theorem lbeg_ls {f : Flt} {l : Lease} (h : IsLs f l) : lbeg f.rs l.1 l.2 = l.2 := by
  rcases h.2 with h0 | ⟨b, h1, h2⟩
  · rw [h0]; rfl
  · rw [h1, lbeg, if_pos h2]
theorem prev_ls {f : Flt} {l : Lease} (h : IsLs f l) (h0 : l.2 ≠ 0) : f.rs[l.2 - 1]? = some l.1 := by
  rcases h.2 with h1 | ⟨b, h1, h2⟩
  · exact absurd h1 h0
  · rw [h1, Nat.add_sub_cancel]; exact h2
theorem edt_mem {rs : List Str} {p : List Nat} {l : Lease} (h0 : l.2 ≠ 0) : Edited rs.length l.2 (endOf rs l) p (edt rs p l) := by
  intro i
  unfold edt
  rw [(srtE_perm eN _).mem_iff, List.mem_append, List.mem_filter, List.mem_filter, decide_eq_true_iff, decide_eq_true_iff]
  have ht : i ∈ turned rs l ↔ (i + 1 = l.2 ∨ (i = endOf rs l ∧ endOf rs l < rs.length)) := by
    unfold turned
    split
    · rename_i h
      simp only [List.mem_cons, List.not_mem_nil, or_false]
      omega
    · rename_i h
      simp only [List.mem_cons, List.not_mem_nil, or_false]
      omega
  rw [← ht]
  by_cases a : i ∈ p <;> by_cases b : i ∈ turned rs l <;> simp [a, b]
/-! ### reached, and the pins -/
theorem ls_of {f : Flt} {l : Lease} (h : l ∈ lsOf f.names f.rs) (hf : FlOk f) : IsLs f l := ls_ok h hf
theorem bars_nil {rs : List Str} {pins : List Lease} {p q : List Nat} : bars rs pins p q = [] ↔ ∀ l ∈ pins, Apart0 rs p q l := by
  unfold bars
  rw [List.filter_eq_nil_iff]
  refine forall_congr' fun l => forall_congr' fun _ => ?_
  rw [← apn_zero, decide_eq_true_iff]
  omega
theorem reach_apart {f : Flt} {pins : List Lease} {p q : List Nat} (hf : FlOk f) (hp : ∀ l ∈ pins, l ∈ lsOf f.names f.rs) (h : Rch (nbr f pins) p q) : ∀ l ∈ pins, Apart0 f.rs p q l := by
  induction h with
  | refl => exact fun l _ => apart_self _ _ _
  | step h1 h2 ih =>
    obtain ⟨l, hl, rfl⟩ := List.mem_map.mp h2
    obtain ⟨hl1, hl2⟩ := List.mem_filter.mp hl
    have hc : CanE _ _ _ _ := of_decide_eq_true hl2
    have hls := ls_ok hl1 hf
    intro l' hl'
    have hls' := ls_ok (hp l' hl') hf
    exact apart_edit (ens_of hls) hc.1 (lbeg_ls hls) (prev_ls hls hc.1) (fun j h1 h2 h3 => hc.2.2 j h3 ⟨h1, h2⟩) (edt_mem hc.1) (lbeg_ls hls') hls'.le (fun e => hc.2.1 (by rw [← e]; exact hl')) (ih l' hl')
/-! ### differences -/
theorem lbeg_pos (rs : List Str) (s : Str) : ∀ k, lbeg rs s k = 0 ∨ ∃ j, lbeg rs s k = j + 1 ∧ rs[j]? = some s
  | 0 => .inl rfl
  | k + 1 => by
    rw [lbeg]
    split
    · rename_i h; exact .inr ⟨k, rfl, h⟩
    · exact lbeg_pos rs s k
theorem isD_ls {f : Flt} {p q : List Nat} {d : Dif} (h : IsD f.rs p q d) : d.1.2 ≠ 0 ∧ d.1 ∈ lsOf f.names f.rs := by
  obtain ⟨h1, h2, h3, h4⟩ := h
  have h0 : d.1.2 ≠ 0 := fun z => by
    rw [z] at h4
    exact (mem_way.mp h4) Iff.rfl
  refine ⟨h0, ls_iff.mpr (.inr ?_)⟩
  rcases lbeg_pos f.rs d.1.1 d.1.2 with e | ⟨j, e1, e2⟩
  · rw [h2] at e; exact absurd e h0
  · exact ⟨j, h2.symm.trans e1, e2⟩
theorem difs_iff {f : Flt} {p q : List Nat} {d : Dif} (hf : FlOk f) : d ∈ difs f p q ↔ IsD f.rs p q d := by
  unfold difs
  rw [(srtE_perm eDif _).mem_iff]
  unfold rawDif
  rw [List.mem_flatMap]
  constructor
  · rintro ⟨l, hl, h⟩
    obtain ⟨e, he, rfl⟩ := List.mem_map.mp h
    unfold eds at he
    obtain ⟨h1, h2⟩ := List.mem_filter.mp he
    have hls := ls_ok hl hf
    exact ⟨of_decide_eq_true h2, lbeg_ls hls, hls.le, h1⟩
  · intro h
    refine ⟨d.1, (isD_ls h).2, List.mem_map.mpr ⟨d.2, ?_, rfl⟩⟩
    unfold eds
    exact List.mem_filter.mpr ⟨h.2.2.2, decide_eq_true h.1⟩
theorem ls_nodup {f : Flt} (hf : FlOk f) : (lsOf f.names f.rs).Nodup := by
  unfold lsOf
  rw [(srtE_perm eLs _).nodup_iff]
  unfold rawLs
  refine List.nodup_append.mpr ⟨List.pairwise_map.mpr (hf.nd.imp fun {a b} h e => h (congrArg Prod.fst e)), List.pairwise_map.mpr ((zip_sorted f.rs 0).imp fun {a b} h e => ?_), fun a ha b hb e => ?_⟩
  · have : a.2 + 1 = b.2 + 1 := congrArg Prod.snd e
    omega
  · obtain ⟨s, _, rfl⟩ := List.mem_map.mp ha
    obtain ⟨t, _, rfl⟩ := List.mem_map.mp hb
    have : 0 = t.2 + 1 := congrArg Prod.snd e
    omega
theorem way_nodup (u v : List Str) : (way u v).Nodup := (way_sorted u v).imp fun {a b} h e => by rw [e] at h; omega
theorem difs_nodup {f : Flt} {p q : List Nat} (hf : FlOk f) : (difs f p q).Nodup := by
  unfold difs
  rw [(srtE_perm eDif _).nodup_iff]
  unfold rawDif
  refine List.pairwise_flatMap.mpr ⟨fun l _ => List.pairwise_map.mpr (((way_nodup _ _).filter _).imp fun {a b} h e => h (congrArg Prod.snd e)), (ls_nodup hf).imp fun {a b} h x hx y hy e => ?_⟩
  obtain ⟨_, _, rfl⟩ := List.mem_map.mp hx
  obtain ⟨_, _, rfl⟩ := List.mem_map.mp hy
  exact h (congrArg Prod.fst e)
theorem flat_len {α β : Type} {g : α → List β} {c : Nat} : ∀ (l : List α), (∀ a ∈ l, (g a).length ≤ c) → (l.flatMap g).length ≤ c * l.length
  | [], _ => by simp
  | a :: l, h => by
    have h1 := flat_len l fun x hx => h x (List.mem_cons_of_mem _ hx)
    have h2 := h a List.mem_cons_self
    rw [List.flatMap_cons, List.length_append, List.length_cons, Nat.mul_succ]
    omega
theorem difs_len {f : Flt} {p q : List Nat} (hf : FlOk f) (hr : f.rs.length ≤ 6) (hn : f.names.length ≤ 12) : (difs f p q).length < 1000 := by
  unfold difs
  rw [(srtE_perm eDif _).length_eq]
  have h := flat_len (c := 12) (g := fun l => (eds f.rs p q l.2 l.1).map fun e => ((l, e) : Dif)) (lsOf f.names f.rs) fun l hl => by
    rw [List.length_map]
    have h1 := List.length_filter_le (fun e : List Str × Str => decide (e.2 = l.1)) (way (vx f.rs p l.2) (vx f.rs q l.2))
    have h2 := way_len (vx f.rs p l.2) (vx f.rs q l.2)
    have h3 := vx_len f.rs p l.2
    have h4 := vx_len f.rs q l.2
    have h5 := (ls_ok hl hf).le
    unfold eds
    omega
  rw [ls_len] at h
  unfold rawDif
  omega
theorem dif_ok {f : Flt} (p q : List Nat) (hf : FlOk f) (hr : f.rs.length ≤ 6) (hn : f.names.length ≤ 12) : DifOk f p q := by
  refine ⟨difs_nodup hf, difs_len hf hr hn, fun k hk d hd => ?_⟩
  rw [row_is] at hd
  obtain ⟨e, he, rfl⟩ := List.mem_map.mp hd
  exact (difs_iff hf).mpr (ent_isD hk he)
theorem adj_iff {f : Flt} {p q : List Nat} {x y : Dif} : Adj (rowsOf f p q) x y ↔ AdjR f.rs p q x y := by
  constructor
  · rintro ⟨r, hr, i, h1, h2⟩
    obtain ⟨k, hk, rfl⟩ := List.mem_map.mp hr
    rw [row_is] at h1 h2
    exact ⟨k, by have := List.mem_range.mp hk; omega, i, h1, h2⟩
  · rintro ⟨k, hk, i, h1, h2⟩
    rw [← row_is] at h1 h2
    exact ⟨_, List.mem_map.mpr ⟨k, List.mem_range.mpr (by omega), rfl⟩, i, h1, h2⟩
/-! ### scripts -/
/-- an order of the differences -/
structure OrdOk (f : Flt) (p q : List Nat) (out : List Dif) : Prop where
  nd : out.Nodup
  iff : ∀ d, d ∈ out ↔ IsD f.rs p q d
  ord : ∀ (i : Nat) (d : Dif), out[i]? = some d → ∀ x, AdjR f.rs p q x d → x ∈ out.take i
theorem ord_topo {f : Flt} {p q : List Nat} {out : List Dif} {pr : Dif → List Dif} (hf : FlOk f) (hadj : ∀ x y, x ∈ pr y ↔ Adj (rowsOf f p q) x y) (t : TopoOk (difs f p q) pr out) : OrdOk f p q out := by
  have hall := topo_all (p := p) (q := q) (rs := f.rs) t (fun d hd => (difs_iff hf).mp hd) fun d hd x hx => by
    have ha := adj_iff.mp ((hadj x d).mp hx)
    exact ⟨(difs_iff hf).mpr (adj_rk ha).1, (adj_rk ha).2.2⟩
  exact ⟨t.nd, fun d => ⟨fun h => (difs_iff hf).mp (t.sub d h), fun h => hall d ((difs_iff hf).mpr h)⟩, fun i d h x hx => t.ord i d h x ((hadj x d).mpr (adj_iff.mpr hx))⟩
theorem ord_some {f : Flt} (p q : List Nat) (hf : FlOk f) : ∃ out, OrdOk f p q out := by
  let le : Dif → Dif → Bool := fun a b => decide (rkD f.rs q a ≤ rkD f.rs q b)
  have hp := List.mergeSort_perm (difs f p q) le
  have hs : ((difs f p q).mergeSort le).Pairwise fun a b => rkD f.rs q a ≤ rkD f.rs q b := by
    have := List.pairwise_mergeSort (le := le) (fun a b c h1 h2 => by simp only [le, decide_eq_true_eq] at *; omega) (fun a b => by simp only [le, Bool.or_eq_true, decide_eq_true_eq]; omega) (difs f p q)
    exact this.imp fun {a b} h => of_decide_eq_true h
  refine ⟨(difs f p q).mergeSort le, hp.nodup_iff.mpr (difs_nodup hf), fun d => hp.mem_iff.trans (difs_iff hf), fun i d hd x hx => ?_⟩
  obtain ⟨h1, _, h3⟩ := adj_rk hx
  obtain ⟨j, hj⟩ := List.mem_iff_getElem?.mp (hp.mem_iff.mpr ((difs_iff hf).mpr h1))
  obtain ⟨i1, i2⟩ := List.getElem?_eq_some_iff.mp hd
  obtain ⟨j1, j2⟩ := List.getElem?_eq_some_iff.mp hj
  have hji : j < i := by
    refine Nat.lt_of_not_le fun hle => ?_
    rcases Nat.lt_or_eq_of_le hle with h | h
    · have := List.pairwise_iff_getElem.mp hs i j i1 j1 h
      rw [i2, j2] at this
      omega
    · subst h
      rw [i2] at j2
      rw [j2] at h3
      omega
  exact List.mem_iff_getElem?.mpr ⟨j, by rw [List.getElem?_take, if_pos hji]; exact hj⟩
/-- the plan behind a script -/
noncomputable abbrev led (rs : List Str) (p : List Nat) (ls : List Lease) : List Nat := ls.foldl (edt rs) p
theorem script_ok {f : Flt} {pins : List Lease} {p q : List Nat} {out : List Dif} (hf : FlOk f) (hp : PlanOk f.rs.length p) (hq : PlanOk f.rs.length q) (hb : bars f.rs pins p q = []) (O : OrdOk f p q out) :
    (∀ i l, (out.map (·.1))[i]? = some l → l ∈ lsOf f.names f.rs ∧ CanE f.rs (led f.rs p ((out.map (·.1)).take i)) pins l) ∧ led f.rs p (out.map (·.1)) = q := by
  have hrun : ∀ i, runP (edt f.rs) p (out.take i) = led f.rs p ((out.map (·.1)).take i) := fun i => by
    unfold runP led
    rw [← List.map_take, List.foldl_map]
  have hls : ∀ d ∈ out, IsLs f d.1 := fun d hd => ls_ok (isD_ls ((O.iff d).mp hd)).2 hf
  have h0 : ∀ d ∈ out, d.1.2 ≠ 0 := fun d hd => (isD_ls ((O.iff d).mp hd)).1
  have S := script_done (p := p) (q := q) (ed := edt f.rs) (en := endOf f.rs) O.nd (fun d hd => (O.iff d).mp hd) O.ord (fun d hd => ens_of (hls d hd)) (fun d hd => ⟨h0 d hd, prev_ls (hls d hd) (h0 d hd)⟩) (fun c d hd => edt_mem (h0 d hd))
  have plan : ∀ i, i ≤ out.length → PlanOk f.rs.length (runP (edt f.rs) p (out.take i)) := by
    intro i
    induction i with
    | zero => intro _; exact hp
    | succ i ih =>
      intro hi
      have hd := List.getElem?_eq_getElem (show i < out.length by omega)
      have hm := List.mem_of_getElem? hd
      have htk : out.take (i + 1) = out.take i ++ [out[i]] := by rw [List.take_succ, hd]; rfl
      have hr : runP (edt f.rs) p (out.take (i + 1)) = edt f.rs (runP (edt f.rs) p (out.take i)) out[i].1 := by
        unfold runP
        rw [htk, List.foldl_append]; rfl
      rw [hr]
      exact edt_ok (ih (by omega)) (hls _ hm) (h0 _ hm)
  refine ⟨fun i l hl => ?_, ?_⟩
  · rw [List.getElem?_map] at hl
    obtain ⟨d, hd, rfl⟩ := Option.map_eq_some_iff.mp hl
    have hi := (List.getElem?_eq_some_iff.mp hd).1
    have hm := List.mem_of_getElem? hd
    have hD := (O.iff d).mp hm
    rw [← hrun]
    refine ⟨(isD_ls hD).2, h0 d hm, fun hpin => ?_, fun h hh hc => (S i (by omega)).2 d hd h hc.1 hc.2 hh⟩
    exact bars_nil.mp hb d.1 hpin d.2 hD.2.2.2 hD.1
  · have hfull : out.take out.length = out := List.take_length
    have D := (S out.length (Nat.le_refl _)).1
    have P := plan out.length (Nat.le_refl _)
    have e : led f.rs p (out.map (·.1)) = runP (edt f.rs) p (out.take out.length) := by
      rw [hfull]; unfold runP led; rw [List.foldl_map]
    rw [e]
    rw [hfull] at D P ⊢
    have key := done_all D O.iff
    refine PlanOk.ext P hq fun j => ?_
    by_cases hj : j < f.rs.length
    · exact key j hj
    · exact ⟨fun h => absurd (P.2 j h) hj, fun h => absurd (hq.2 j h) hj⟩
theorem nbr_ok {f : Flt} {pins : List Lease} (hf : FlOk f) (x : List Nat) (hx : PlanOk f.rs.length x) : ∀ y ∈ nbr f pins x, PlanOk f.rs.length y := fun y hy => by
  obtain ⟨l, hl, rfl⟩ := List.mem_map.mp hy
  obtain ⟨h1, h2⟩ := List.mem_filter.mp hl
  have hc : CanE f.rs x pins l := of_decide_eq_true h2
  exact edt_ok hx (ls_ok h1 hf) hc.1
theorem bars_reach {f : Flt} {pins : List Lease} {p q : List Nat} (hf : FlOk f) (hp : PlanOk f.rs.length p) (hq : PlanOk f.rs.length q) (hb : bars f.rs pins p q = []) : Rch (nbr f pins) p q := by
  obtain ⟨out, O⟩ := ord_some p q hf
  obtain ⟨h1, h2⟩ := script_ok hf hp hq hb O
  generalize hls : out.map (·.1) = ls at h1 h2
  have go : ∀ i, i ≤ ls.length → Rch (nbr f pins) p (led f.rs p (ls.take i)) := by
    intro i
    induction i with
    | zero => intro _; exact .refl
    | succ i ih =>
      intro hi
      have hd := List.getElem?_eq_getElem (show i < ls.length by omega)
      obtain ⟨a, b⟩ := h1 i _ hd
      have htk : ls.take (i + 1) = ls.take i ++ [ls[i]] := by rw [List.take_succ, hd]; rfl
      have hr : led f.rs p (ls.take (i + 1)) = edt f.rs (led f.rs p (ls.take i)) ls[i] := by
        unfold led
        rw [htk, List.foldl_append]; rfl
      rw [hr]
      exact (ih (by omega)).step (List.mem_map.mpr ⟨ls[i], List.mem_filter.mpr ⟨a, decide_eq_true b⟩, rfl⟩)
  have := go ls.length (Nat.le_refl _)
  rw [List.take_length, h2] at this
  exact this
/-- what the search finds -/
theorem search_ok {f : Flt} {pins : List Lease} {p : List Nat} (hf : FlOk f) (hr : f.rs.length ≤ 6) (hp : PlanOk f.rs.length p) : BfsOk (PlanOk f.rs.length) (bfs 2000 (nbr f pins) p) ∧ (bfs 2000 (nbr f pins) p).length ≤ 64 ∧
    ∀ q, q ∈ (bfs 2000 (nbr f pins) p).map (·.1) ↔ Rch (nbr f pins) p q := by
  have few : ∀ fd, BfsOk (PlanOk f.rs.length) fd → fd.length ≤ 64 := fun fd ok => by
    have h1 := plans_few (n := f.rs.length) (l := fd.map (·.1)) ok.nd fun x hx => by
      obtain ⟨y, hy, rfl⟩ := List.mem_map.mp hx
      exact ok.ok y hy
    rw [List.length_map] at h1
    exact Nat.le_trans h1 (Nat.pow_le_pow_right (n := 2) (by decide) hr)
  obtain ⟨a, b⟩ := bfs_ok (B := 2000) (N := 64) (p := p) few (nbr_ok hf) hp (by decide)
  exact ⟨a, few _ a, b⟩
theorem reached_iff {f : Flt} {pins : List Lease} {p q : List Nat} (hf : FlOk f) (hr : f.rs.length ≤ 6) (hp : PlanOk f.rs.length p) (hq : PlanOk f.rs.length q) (hpin : ∀ l ∈ pins, l ∈ lsOf f.names f.rs) :
    q ∈ (bfs 2000 (nbr f pins) p).map (·.1) ↔ bars f.rs pins p q = [] := by
  rw [(search_ok hf hr hp).2.2 q]
  exact ⟨fun h => bars_nil.mpr (reach_apart hf hpin h), bars_reach hf hp hq⟩
end SH
end P20
section P21
set_option Elab.async false
set_option linter.all false
set_option maxRecDepth 100000
set_option maxHeartbeats 8000000
/-! P21: the law -/
namespace DL
open PySem PySem.Spec PyProof.Rows L2
/-- a def by its body, its code object known -/
theorem fnG_at {P : Program} {w : World} {K : PySem.W.Frag} {mg : Str → Option Value} {base : Heap} {CX : CXT} {k : Nat} {x qual : Str} {st : Stmt} {f : Addr} {N ps : List Str} {sp : Sp} {oc kV doc pm cdv ct : Value} {od an : Option Addr} {osl : Array (Option Value)}
    (lk : K.lookup f = some ⟨oc, od, .func (PySem.W.fnOf x qual (defArgs st) (defBody st) (defScope st) .none kV doc pm an cdv ct), osl⟩) (hcd : PySem.W.codeIn K cdv qual = true) (S : FnScope N ps (defScope st)) (len : ∀ vs H Q E, sp vs H Q E → vs.length = ps.length)
    (hbody : ∀ (A : Around) (outer : List Env) (s : Shared) (H : Hp) (vs : List V) (Q : VK) (E : XK), RoomG k (A.deeper (envOfC qual (defScope st) s.heap.objs.size f cdv)) → sp vs H Q E →
      ∃ t, PSs (cxOf CX P w K mg base N qual (defScope st) f cdv A outer s H E) (defBody st) t ∧ t { nx := fun _ H' => Q .non H', rt := Q } (start N vs) H) :
    FnG P w K mg base CX (k + 1) f (PySem.W.fnOf x qual (defArgs st) (defBody st) (defScope st) .none kV doc pm an cdv ct) ps sp := by
  refine ⟨len, fun A outer s H args us vs Q E hr e0 hb r hsp => ?_⟩
  have nl := len _ _ _ _ hsp
  have inK : K.In s.heap := e0.mod.kin.keeps fun b o e => (e0.bs b o e).1
  have lim : s.heap.NoLimit := e0.mod.nolimit.keeps fun b o e => (e0.bs b o e).1
  have places : ∀ y ∈ ps.zip us, (defScope st).names.lookup y.1 = some .local ∨ ((defScope st).names.lookup y.1 = some .cell ∧ ((cellsFrom (s.heap.objs.size + 1) (defScope st).names []).lookup y.1).isSome = true) := by
    rintro ⟨n, v⟩ hy
    exact (S.par n (List.of_mem_zip hy).1).imp id fun q => ⟨q, PySem.W.cellsFrom_some _ _ _ (.inl q)⟩
  refine codeAny_call_function hr.r.depth (inK _ _ lk) rfl S.co S.gen rfl (PySem.W.codeRec_of inK hcd) (hb _ _ _ _ ?_)
  refine wpAny_newFunctionEnv_cells S.kind places fun env he s1 frame => ?_
  subst he
  refine ⟨lim.keeps frame.toInCall.keep, codeAny_func ?_⟩
  obtain ⟨t, ht, hq⟩ := hbody A outer s H vs Q E (hr.deeper _) hsp
  have I := inv_start (CX := CX) (E := E) S hr.r.hd e0 nl r frame
  refine wpAny_mono (ht.run [] s1 (start N vs) H _ I hq) (fun fl s' hs => ?_) fun e s' hs => hs
  cases fl with
  | ret u => exact let ⟨v, σ', H', J, rv, q⟩ := hs; ⟨v, H', J.os, J.bare, J.base, J.hok, rv, q⟩
  | next => exact let ⟨σ', H', J, q⟩ := hs; ⟨V.non, H', J.os, J.bare, J.base, J.hok, rfl, q⟩
  | brk => exact let ⟨_, _, _, q⟩ := hs; False.elim q
  | cont => exact let ⟨_, _, _, q⟩ := hs; False.elim q
theorem forL_inv {G : Gt} {S : SttL} (I : Sv → Prop) {R : Sv → Prop} : ∀ (ds : List PyData) (ρ : Sv), I ρ → (∀ d ∈ ds, ∀ ρ, I ρ → ∀ K : Sv → Prop, (∀ ρ', I ρ' → K ρ') → noDct ρ ∧ G d ρ fun ρ1 => S ρ1 K) → (∀ ρ, I ρ → R ρ) → forL G S ds ρ R
  | [], ρ, h, _, hd => hd ρ h
  | d :: ds, ρ, h, hs, hd => hs d List.mem_cons_self ρ h _ fun ρ' h' => forL_inv I ds ρ' h' (fun x hx => hs x (List.mem_cons_of_mem _ hx)) hd
end DL
namespace SH
open PySem PySem.Spec PyProof.Rows L2 DL SM LamX
section
variable {P : Program} {w : World} {K : PySem.W.Frag} {mg : Str → Option Value} {base : Heap}
abbrev nmlaw : List Str := ["_law_script", "_law_bag_here", "_law_fleet_here", "_law_depths_here", "_law_other", "_law_pins_here", "_law_one", "_law_bars", "_law_heard_here", "_law_lease"]
theorem sclaw : FnScope nmlaw ["_law_script"] (defScope (topS 74)) := ⟨rfl, rfl, rfl, by decide +kernel, rfl, by decide +kernel, by decide +kernel⟩
def spLaw (Pt : Addr) : Sp := fun vs H Q _ => ∃ (a : Addr) (o : Obj) (ns : List Int), vs = [.ref a] ∧ H a = some (.frz o (.lst (ns.map V.int))) ∧ ns.length ≤ 63 ∧ H Pt = some (.tbl #[]) ∧ ∀ H', Q (.bl true) H'
/-- the defs that the law calls -/
structure Calls (P : Program) (w : World) (K : PySem.W.Frag) (mg : Str → Option Value) (base : Heap) (k : Nat) : Prop where
  bag : CalN P w K mg base k "_law_bag" 1 F_law_bag
  tiny : CalB P w K mg base k "_law_tiny" 1 F_law_tiny
  pins : CalB P w K mg base k "_law_pins" 2 F_law_pins
  plan : CalB P w K mg base k "_law_plan" 2 F_law_plan
  mixed : CalB P w K mg base k "_law_mixed" 2 F_law_mixed
  depths : Cal P w K mg base k "_law_depths" 3 F_law_depths
  alike : Cal P w K mg base k "_law_alike" 2 F_law_alike
  all_plans : Cal P w K mg base k "_law_all_plans" 1 F_law_all_plans
  apart : Cal P w K mg base k "_law_apart" 4 F_law_apart
  led : Cal P w K mg base k "_law_led" 4 F_law_led
  class_of : Cal P w K mg base k "class_of" 3 Fclass_of
  barring : Cal P w K mg base k "barring" 4 Fbarring
  leads : Cal P w K mg base k "leads" 4 Fleads
  fewest : Cal P w K mg base k "fewest_edits" 4 Ffewest_edits
theorem ints_dv {H : Hp} : ∀ (l : List Int), DvAll H (l.map V.int) (l.map PyData.int)
  | [] => .nil
  | x :: l => .cons (.int x) (ints_dv l)
theorem oklaw {f C fI g c Pt : Addr} {fdH : FuncData} {k : Nat} {oc kV doc pm ct : Value} {od an : Option Addr} {osl : Array (Option Value)}
    (lk : K.lookup f = some ⟨oc, od, .func (PySem.W.fnOf "law" "law" (defArgs (topS 74)) (defBody (topS 74)) (defScope (topS 74)) .none kV doc pm an (.ref c) ct), osl⟩) (hcd : PySem.W.codeIn K (.ref c) "law" = true) (M : Blt mg)
    (T : SupC P K mg C fI) (gC : mg "NoWay" = some (.ref C)) (FH : Fun K "_law_heard" "_law_heard" (topS 73) g fdH) (gH : mg "_law_heard" = some (.ref g)) (bH : L2.Binds K fdH ["_law_act"] []) (TB : TabB base mg c Pt)
    (CC : Calls P w K mg base (k + 2)) (CX : CalX P w K mg base k "script_to" 4 C Fscript_to Gscript_to) :
    FnG P w K mg base C8.CX0 (k + 3) f (PySem.W.fnOf "law" "law" (defArgs (topS 74)) (defBody (topS 74)) (defScope (topS 74)) .none kV doc pm an (.ref c) ct) ["_law_script"] (spLaw Pt) := by
  refine fnG_at lk hcd sclaw (fun vs H Q E ⟨a, o, ns, e, _⟩ => by rw [e]; rfl) fun A outer s H vs Q E hr hsp => ?_
  have hs : PSs (cxOf C8.CX0 P w K mg base nmlaw "law" (defScope (topS 74)) f (.ref c) A outer s H E).nox (defBody (topS 74)) _ :=
    psl_consR (psl_ds (T := [(Pt, "law.<locals>.<lambda>")]) (ds_set (i := 1) sclaw.nd rfl (.inl rfl) (de_fnN CC.bag hr (Nat.le_refl _) rfl (da_cons (de_var 0) da_nil))))
    (psl_consR (psl_ds (T := [(Pt, "law.<locals>.<lambda>")]) (ds_set (i := 2) sclaw.nd rfl (.inr rfl) (de_fnB CC.tiny hr (Nat.le_refl _) rfl (da_cons (de_var 1) da_nil))))
    (psl_consR (psl_ds (T := [(Pt, "law.<locals>.<lambda>")]) (ds_parT (is := [5, 6]) rfl (da_cons (de_fnB CC.pins hr (Nat.le_refl _) rfl (da_cons (de_var 1) (da_cons (de_var 2) da_nil))) (da_cons (de_fnB CC.plan hr (Nat.le_refl _) rfl (da_cons (de_var 1) (da_cons (de_var 2) da_nil))) da_nil)) (pgs_cons (pg_name (i := 5) sclaw.nd rfl (.inr rfl)) (pgs_cons (pg_name (i := 6) sclaw.nd rfl (.inr rfl)) pgs_nil)) set2_ok))
    (psl_consR (psl_ds (T := [(Pt, "law.<locals>.<lambda>")]) (ds_set (i := 3) sclaw.nd rfl (.inl rfl) (de_fn CC.depths hr (Nat.le_refl _) rfl (da_cons (de_var 2) (da_cons (de_var 6) (da_cons (de_var 5) da_nil))))))
    (psl_consR (psl_if0 (T := [(Pt, "law.<locals>.<lambda>")]) (dt_not (dt_val (de_fn CC.alike hr (Nat.le_refl _) rfl (da_cons (de_fn CC.class_of hr (Nat.le_refl _) rfl (da_cons (de_var 2) (da_cons (de_var 5) (da_cons (de_var 6) da_nil)))) (da_cons (de_tupc rfl rfl M.tuple (da_cons (de_sortedD hr rfl rfl rfl M.sorted (da_cons (de_var 3) da_nil)) da_nil)) da_nil))))) (pss_one (ps_ret pe_bl)))
    (psl_consR (psl_for (T := [(Pt, "law.<locals>.<lambda>")]) PassesOwn.never rfl (di_list (de_frz (de_op od_add (de_sl (de_fnB CC.mixed hr (Nat.le_refl _) rfl (da_cons (de_var 1) (da_cons (de_fn CC.all_plans hr (Nat.le_refl _) rfl (da_cons (de_var 2) da_nil)) da_nil))) do_no (do_yes de_int)) (de_sl (de_fnB CC.mixed hr (Nat.le_refl _) rfl (da_cons (de_var 1) (da_cons (de_frz (de_sortedD hr rfl rfl rfl M.sorted (da_cons (de_var 3) da_nil))) da_nil))) do_no (do_yes de_int))))) (dg_name (i := 4) sclaw.nd rfl (.inr rfl))
      (psl_cons (psl_ds (ds_set (i := 7) sclaw.nd rfl (.inl rfl) (de_tupc rfl rfl M.tuple (da_cons (de_lc rfl sclaw.nd (di_tup (de_var 5)) (blkOk_by (own := [("_law_lease", 9)]) (N := nmlaw) (sc := defScope (topS 74)) (by decide +kernel)) (fun _ _ _ _ _ => (dg_name (i := 9) sclaw.nd rfl (.inl rfl))) (fun _ _ _ _ _ => (dts_one (dt_cmp od_gt (de_fn CC.apart hr (Nat.le_refl _) rfl (da_cons (de_var 2) (da_cons (de_var 6) (da_cons (de_var 4) (da_cons (de_var 9) da_nil))))) de_int))) (fun _ _ _ _ _ => (de_var 9))) da_nil))))
      (psl_cons (psl_if0 (dt_w (dw_or (dt_cmp (od_ne hr.hu) (de_cmp (od_inD hr.hu) (de_var 4) (de_var 3)) (de_cmp (od_eq hr.hu) (de_var 7) (de_tup da_nil))) (dw_or1 (dt_not (dt_val (de_fn CC.alike hr (Nat.le_refl _) rfl (da_cons (de_fn CC.barring hr (Nat.le_refl _) rfl (da_cons (de_var 2) (da_cons (de_var 5) (da_cons (de_var 6) (da_cons (de_var 4) da_nil))))) (da_cons (de_var 7) da_nil)))))))) (pss_one (ps_ret pe_bl)))
      (psl_cons (psl_if0 (dt_not (dt_val (de_fn CC.alike hr (Nat.le_refl _) rfl (da_cons (de_fn CC.leads hr (Nat.le_refl _) rfl (da_cons (de_var 2) (da_cons (de_var 5) (da_cons (de_var 6) (da_cons (de_var 4) da_nil))))) (da_cons (de_cmp (od_inD hr.hu) (de_var 4) (de_var 3)) da_nil))))) (pss_one (ps_ret pe_bl)))
      (psl_cons (psl_heard (m := 8) (j1 := 2) (j2 := 5) (j3 := 6) (j4 := 4) (c := c) (Pt := Pt) T gC FH gH bH TB rfl (by exact List.mem_singleton.mpr rfl) (fun p hp _ => by rw [List.mem_singleton.mp hp]; rfl) hr (show LamS (defScope (topS 74)) _ from lamS_by (by decide +kernel)) rfl (fun _ _ _ _ _ => rfl) CX (fun _ _ _ _ _ _ _ => rfl)
        (fun _ _ _ _ _ _ _ => da_cons (de_var 2) (da_cons (de_var 5) (da_cons (de_var 6) (da_cons (de_var 4) da_nil)))) (fun _ _ _ _ _ _ _ => rfl) (fun _ _ _ _ _ _ _ => rfl) rfl sclaw.nd rfl (.inl rfl))
      (psl_cons (psl_if0 (dt_w (dw_and (dt_cmp (od_ne hr.hu) (de_var 7) (de_tup da_nil)) (dw_and1 (dt_not (dt_val (de_fn CC.alike hr (Nat.le_refl _) rfl (da_cons (de_var 8) (da_cons (de_tup (da_cons de_str (da_cons (de_ix (de_var 7) de_int) da_nil))) da_nil)))))))) (pss_one (ps_ret pe_bl)))
      (psl_cons (psl_if0 (dt_w (dw_and (dt_cmp (od_eq hr.hu) (de_var 7) (de_tup da_nil)) (dw_and1 (dt_w (dw_or (dt_cmp (od_ne hr.hu) (de_ix (de_var 8) de_int) de_str) (dw_or1 (dt_cmp (od_ne hr.hu) (de_fn CC.led hr (Nat.le_refl _) rfl (da_cons (de_var 2) (da_cons (de_var 5) (da_cons (de_var 6) (da_cons (de_ix (de_var 8) de_int) da_nil))))) (de_var 4)))))))) (pss_one (ps_ret pe_bl)))
      (psl_one (psl_if0 (dt_not (dt_val (de_fn CC.alike hr (Nat.le_refl _) rfl (da_cons (de_fn CC.fewest hr (Nat.le_refl _) rfl (da_cons (de_var 2) (da_cons (de_var 5) (da_cons (de_var 6) (da_cons (de_var 4) da_nil))))) (da_cons (de_getD hr.hu rfl (de_var 3) (da_cons (de_var 4) da_nil)) da_nil))))) (pss_one (ps_ret pe_bl)))))))))))
    psl_retT)))))
  refine ⟨_, hs.nox, ?_⟩
  obtain ⟨a, o, ns, rfl, ha, hl, hPt, hQ⟩ := hsp
  have hd : DtAll P w H [.ref a] [.d (.list (ns.map .int))] := .cons (Dv.lst ha (ints_dv ns)) .nil
  obtain ⟨rep, no⟩ := rep_start (P := P) (w := w) (N := nmlaw) hd
  refine ⟨_, rep, fun p hp => by rw [List.mem_singleton.mp hp]; exact TabS.nil hPt, ?_, fun H' => hQ H'⟩
  refine ⟨no_dct, _, rfl, ns, rfl, hl, fun bag hbag => ⟨_, rfl, lt_ok, no_dct, ?_⟩⟩
  refine ⟨_, _, _, _, rfl, rfl, rfl, rfl, hbag, fun fl bag1 n hn1 hn4 hdr hbag1 => ⟨_, rfl, lt_ok, no_dct, ?_⟩⟩
  obtain ⟨hf, hnl, hpnd, hpl, hple, hrl⟩ := hdr
  have hDr : Dr fl := ⟨hf, hpnd, hpl.trans hnl.symm, fun x hx => by rw [hnl]; exact hple x hx⟩
  refine ⟨_, _, _, _, rfl, rfl, rfl, fl, rfl, hf, hbag1, fun pins bag2 hpins hplen hbag2 => ⟨_, _, _, _, rfl, rfl, rfl, fl, rfl, by omega, hbag2, fun p bag3 hp hbag3 => ⟨_, rfl, no_dct, ?_⟩⟩⟩
  have hpin : ∀ l ∈ pins, l ∈ lsOf fl.names fl.rs := fun l hl => (hpins l hl).1
  refine ⟨_, rfl, fl, p, pins, rfl, hDr, by omega, hp, _, rfl, lt_ok, no_dct, ?_⟩
  obtain ⟨hok, h64, _⟩ := search_ok (pins := pins) hf hrl hp
  have hre := fun q hq => reached_iff (pins := pins) (q := q) hf hrl hp hq hpin
  generalize hB : bfs 2000 (nbr fl pins) p = B at hok h64 hre
  have hclass : Shw (eT eP (srtE eP (B.map (·.1)))) := by
    have h := sz_tup (f := eP) (n := 27) (k := 1) (srtE eP (B.map (·.1))) fun x hx => by
      obtain ⟨y, hy, rfl⟩ := List.mem_map.mp ((srtE_perm eP _).mem_iff.mp hx)
      have hy2 := hok.ok y hy
      have hlen := hy2.len
      exact (sz_tup (f := eN) (n := 2) (k := 0) y.1 fun i hi => sz_nat (by have := hy2.2 i hi; omega)).mono (by omega) (Nat.le_refl _)
    refine h.shw (Nat.le_trans (Nat.add_le_add_right (Nat.mul_le_mul_left _ ?_) 3) (show (27 + 2) * 64 + 3 ≤ 1000000 by decide)) (by decide)
    rw [(srtE_perm eP _).length_eq, List.length_map]; exact h64
  have szls : ∀ l ∈ lsOf fl.names fl.rs, Sz (eLs l) 159 1 := fun l hl => by
    have hls := ls_ok hl hf
    have hle := hls.le
    have hnm := hf.nm _ hls.1
    have h12 := hnm.hi
    exact (sz_two (sz_str hnm.sm) (sz_nat (n := l.2) (by omega))).mono (by omega) (by omega)
  refine ⟨_, rfl, fl, pins, p, rfl, hf, by omega, hp, _, _, rfl, rfl, ?_⟩
  rw [hB, keys_P, srtE_map]
  refine ⟨srt_P _, _, rfl, _, rfl, hclass, (okd_T okP).eq _ _ |>.trans (by simp), _, rfl, rfl, no_dct, ?_⟩
  have hpl64 : (srtE eP (plans fl.rs.length)).length ≤ 64 := by
    rw [(srtE_perm eP _).length_eq, plans_len]
    exact Nat.pow_le_pow_right (n := 2) (by decide) hrl
  refine ⟨_, rfl, fl, rfl, by omega, _, _, _, _, rfl, rfl, rfl, _, rfl, by rw [List.length_map]; omega, hbag3, fun l1 bag4 hl1 hbag4 => ⟨_, rfl, ?_⟩⟩
  have hB64 : (srtE eP (B.map (·.1))).length ≤ 64 := by
    rw [(srtE_perm eP _).length_eq, List.length_map]; exact h64
  refine ⟨_, _, rfl, rfl, by rw [keys_P]; exact srt_P _, _, rfl, _, _, _, _, rfl, rfl, rfl, _, rfl, by rw [keys_P, srtE_map, List.length_map]; omega, hbag4, fun l2 bag5 hl2 hbag5 => ⟨_, rfl, ?_, _, rfl, _, rfl, no_dct, ?_⟩⟩
  · rw [show DL.cutD l1 none (some 24) = l1.take 24 from cut_to l1 24, show DL.cutD l2 none (some 4) = l2.take 4 from cut_to l2 4, List.length_take, List.length_take]
    exact Nat.le_trans (m := 100) (by omega) (by decide)
  have hmem : ∀ d ∈ DL.cutD l1 none (some 24) ++ DL.cutD l2 none (some 4), ∃ q, PlanOk fl.rs.length q ∧ d = eP q := by
    intro d hd
    rw [show DL.cutD l1 none (some 24) = l1.take 24 from cut_to l1 24, show DL.cutD l2 none (some 4) = l2.take 4 from cut_to l2 4] at hd
    rcases List.mem_append.mp hd with h | h
    · obtain ⟨q, hq, rfl⟩ := List.mem_map.mp (hl1.mem_iff.mp (List.mem_of_mem_take h))
      exact ⟨q, plans_ok _ q ((srtE_perm eP _).mem_iff.mp hq), rfl⟩
    · have h2 := hl2.mem_iff.mp (List.mem_of_mem_take h)
      rw [keys_P, srtE_map] at h2
      obtain ⟨q, hq, rfl⟩ := List.mem_map.mp h2
      obtain ⟨x, hx, rfl⟩ := List.mem_map.mp ((srtE_perm eP _).mem_iff.mp hq)
      exact ⟨x.1, hok.ok x hx, rfl⟩
  generalize DL.cutD l1 none (some 24) ++ DL.cutD l2 none (some 4) = others at hmem
  let okC : Option Cell → Prop := fun c => c = none ∨ ∃ x, c = some (.dat x)
  let st : Option Cell → Option Cell → Option Cell → Sv := fun c4 c7 c8 => [some (.dat (.d (.list (ns.map .int)))), some (.lst bag5), some (.dat (.d (eFl fl))), some (.dat (.k (dictP B))), c4, some (.dat (.d (ePins pins))), some (.dat (.d (eP p))), c7, c8, none]
  have hnd : ∀ {c4 c7 c8 : Option Cell}, okC c4 → okC c7 → okC c8 → noDct (st c4 c7 c8) := by
    rintro c4 c7 c8 h4 h7 h8
    refine noDct_of ?_
    rcases h4 with rfl | ⟨x, rfl⟩ <;> rcases h7 with rfl | ⟨y, rfl⟩ <;> rcases h8 with rfl | ⟨z, rfl⟩ <;> rfl
  refine forL_inv (fun ρ => ∃ c4 c7 c8, okC c4 ∧ okC c7 ∧ okC c8 ∧ ρ = st c4 c7 c8) others _ ⟨none, none, none, .inl rfl, .inl rfl, .inl rfl, rfl⟩ ?_ fun _ _ => True.intro
  rintro d hd ρ ⟨c4, c7, c8, h4, h7, h8, rfl⟩ nx hn
  obtain ⟨q, hq, rfl⟩ := hmem d hd
  refine ⟨hnd h4 h7 h8, lt_ok, hnd (c4 := some (.dat (.d (eP q)))) (.inr ⟨_, rfl⟩) h7 h8, _, rfl, free_ok, ?_⟩
  refine lc_N (enc := eLs) (encB := eLs) (fun l => decide (0 < apn fl.rs p q l)) id lt_ok rfl (fun l hl K k => ?_) (fun l hl hp K k => k) ?_
  · exact ⟨_, rfl, fl, p, q, l, rfl, by omega, (ls_ok (hpin l hl) hf).le, hp, hq, _, rfl, rb (F := fun b => K b _) (decide_eq_decide.mpr (by omega)) k⟩
  rw [List.map_id]
  have ebs : pins.filter (fun l => decide (0 < apn fl.rs p q l)) = bars fl.rs pins p q := rfl
  rw [ebs]
  have hbl : (bars fl.rs pins p q).length ≤ 200 := Nat.le_trans (List.length_filter_le _ _) hplen
  have hbm : ∀ l ∈ bars fl.rs pins p q, l ∈ lsOf fl.names fl.rs := fun l hl => hpin l (List.mem_filter.mp hl).1
  generalize hbs : bars fl.rs pins p q = bs at hbl hbm
  have h2 : PyData.eqv (ePins bs) (.tuple []) = true ↔ bs = [] := by
    rw [show PyData.tuple [] = ePins [] from rfl, (okd_T okLs).eq]
    exact decide_eq_true_iff
  have h1 : (kAt (dictP B) (nkOf (eP q))).isSome = true ↔ bs = [] := by
    rw [dictP_some, decide_eq_true_iff, ← hbs]
    exact hre q hq
  have hxy : (kAt (dictP B) (nkOf (eP q))).isSome = PyData.eqv (ePins bs) (.tuple []) := Bool.eq_iff_iff.mpr (h1.trans h2.symm)
  have hbb : ∀ x : Bool, PyData.eqv (.bool x) (.bool x) = true := fun x => by cases x <;> simp [PyData.eqv]
  have sbars : Shw (ePins bs) := by
    have h := sz_tup (f := eLs) bs fun l hl => szls l (hbm l hl)
    exact h.shw (Nat.le_trans (Nat.add_le_add_right (Nat.mul_le_mul_left _ hbl) 3) (by decide)) (by decide)
  have dbs : (ePins bs).depth ≤ 60 := sbars.dep
  refine ⟨_, rfl, lt_ok, hnd (c4 := some (.dat (.d (eP q)))) (c7 := some (.dat (.d (ePins bs)))) (.inr ⟨_, rfl⟩) (.inr ⟨_, rfl⟩) h8, ?_⟩
  refine ⟨_, _, rfl, rfl, okkP.key q, _, rfl, le_ok, Nat.le_trans (Nat.min_le_left _ _) dbs, Nat.zero_le _, _, rfl, ?_⟩
  show if (!PyData.eqv (.bool (kAt (dictP B) (nkOf (eP q))).isSome) (.bool (PyData.eqv (ePins bs) (.tuple [])))) = true then _ else _
  rw [hxy, hbb, Bool.not_true, if_neg Bool.false_ne_true]
  refine ⟨_, rfl, fl, pins, p, q, rfl, hf, hpin, _, rfl, ?_⟩
  rw [ebs, hbs]
  refine ⟨_, rfl, sbars, (okd_T okLs).eq bs bs |>.trans (by simp), _, rfl, rfl, ?_⟩
  refine ⟨hnd (c4 := some (.dat (.d (eP q)))) (c7 := some (.dat (.d (ePins bs)))) (.inr ⟨_, rfl⟩) (.inr ⟨_, rfl⟩) h8, ?_⟩
  have h3 : ∀ inst : Decidable (pins.filter (fun l => decide (0 < apn fl.rs p q l)) = []), (kAt (dictP B) (nkOf (eP q))).isSome = @decide _ inst := fun inst => Bool.eq_iff_iff.mpr (h1.trans (by rw [decide_eq_true_iff, ebs, hbs]))
  refine ⟨_, rfl, fl, pins, p, q, rfl, hf, hpin, _, _, rfl, rfl, okkP.key q, _, rfl, .bool (kAt (dictP B) (nkOf (eP q))).isSome, ?_, (sz_bool _).shw (by decide) (by decide), hbb _, _, rfl, rfl, ?_⟩
  · show [Dt.d (.bool (decide _)), Dt.d (.bool (kAt (dictP B) (nkOf (eP q))).isSome)] = _
    rw [h3]
  refine ⟨hnd (c4 := some (.dat (.d (eP q)))) (c7 := some (.dat (.d (ePins bs)))) (.inr ⟨_, rfl⟩) (.inr ⟨_, rfl⟩) h8, lt_ok, _, _, _, _, rfl, rfl, rfl, rfl, ?_⟩
  have e0 : ∀ {A' B' : Prop}, bs = [] → B' → if (!PyData.eqv (ePins bs) (.tuple [])) = true then A' else B' := fun h b => by rw [h2.mpr h]; exact b
  have e1 : ∀ {A' B' : Prop}, bs ≠ [] → A' → if (!PyData.eqv (ePins bs) (.tuple [])) = true then A' else B' := fun h b => by
    rw [show PyData.eqv (ePins bs) (.tuple []) = false from by
      cases e : PyData.eqv (ePins bs) (.tuple []) with
      | false => rfl
      | true => exact absurd (h2.mp e) h]
    exact b
  have e2 : ∀ {A' B' : Prop}, bs = [] → A' → if PyData.eqv (ePins bs) (.tuple []) = true then A' else B' := fun h b => by rw [h2.mpr h]; exact b
  have e4 : ∀ {A' B' : Prop}, B' → if (!PyData.eqv (.str "told") (.str "told")) = true then A' else B' := fun b => by
    rw [show PyData.eqv (.str "told") (.str "told") = true from (okd_str.eq _ _).trans (by simp)]
    exact b
  have e3 : ∀ {A' B' : Prop}, bs ≠ [] → B' → if PyData.eqv (ePins bs) (.tuple []) = true then A' else B' := fun h b => by
    rw [if_neg fun z => h (h2.mp z)]
    exact b
  obtain ⟨slast, elast⟩ : Shw ((kAt (dictP B) (nkOf (eP q))).getD .none) ∧ PyData.eqv ((kAt (dictP B) (nkOf (eP q))).getD .none) ((kAt (dictP B) (nkOf (eP q))).getD .none) = true := by
    by_cases hm : q ∈ B.map (·.1)
    · obtain ⟨⟨x, dx⟩, hx, ex⟩ := List.mem_map.mp hm
      have ex : x = q := ex
      subst ex
      rw [dictP_at hok.nd hx]
      obtain ⟨j, hj⟩ := List.mem_iff_getElem?.mp hx
      have hsh := bfs_depth 2000 (nbr fl pins) p
      rw [hB] at hsh
      have h5 := hsh j _ hj
      have h6 := (List.getElem?_eq_some_iff.mp hj).1
      exact ⟨(sz_nat (n := dx) (by have : dx ≤ j := h5; omega)).shw (by decide) (by decide), (okd_nat.eq dx dx).trans (by simp)⟩
    · have e : kAt (dictP B) (nkOf (eP q)) = none := by
        cases e : kAt (dictP B) (nkOf (eP q)) with
        | none => rfl
        | some v =>
          have := dictP_some B q
          rw [e] at this
          exact absurd (of_decide_eq_true this.symm) hm
      rw [e]
      exact ⟨sz_none.shw (by decide) (by decide), by simp [PyData.eqv]⟩
  by_cases hb : bs = []
  · refine .inl ⟨fun d => ∃ out, OrdOk fl p q out ∧ d = .d (ePins (out.map (·.1))), ⟨fl, pins, p, q, rfl, hf, hpin, hbs.trans hb, dif_ok p q hf hrl (by omega), fun out pr hadj ht => ⟨out, ord_topo hf hadj ht, rfl⟩⟩, fun d ⟨out, O, e⟩ => ⟨_, e, ?_⟩⟩
    obtain ⟨s1, s2⟩ := script_ok hf hp hq (hbs.trans hb) O
    refine ⟨hnd (c4 := some (.dat (.d (eP q)))) (c7 := some (.dat (.d (ePins bs)))) (.inr ⟨_, rfl⟩) (.inr ⟨_, rfl⟩) (.inr ⟨_, rfl⟩), ?_⟩
    refine ⟨_, rfl, le_ok, Nat.le_trans (Nat.min_le_left _ _) dbs, _, rfl, e0 hb ⟨rfl, ?_⟩⟩
    refine ⟨hnd (c4 := some (.dat (.d (eP q)))) (c7 := some (.dat (.d (ePins bs)))) (.inr ⟨_, rfl⟩) (.inr ⟨_, rfl⟩) (.inr ⟨_, rfl⟩), ?_⟩
    refine ⟨_, rfl, le_ok, Nat.le_trans (Nat.min_le_left _ _) dbs, _, rfl, e2 hb ?_⟩
    refine ⟨_, rfl, Nat.le_trans (Nat.min_le_left _ _) (Nat.zero_le 60), _, rfl, ?_⟩
    refine e4 ?_
    refine ⟨_, rfl, _, rfl, fl, pins, p, out.map (·.1), rfl, hDr, hp, s1, ?_⟩
    have hl : PyData.eqv (eP ((out.map (·.1)).foldl (edt fl.rs) p)) (eP q) = true := ((okd_T okd_nat).eq _ _).trans (decide_eq_true s2)
    have e5 : (!PyData.eqv (eP ((out.map (·.1)).foldl (edt fl.rs) p)) (eP q)) = false := by rw [hl]; rfl
    refine ⟨Nat.le_trans (Nat.min_le_right _ _) (Nat.le_trans (okP.dep q) (by decide)), _, rfl, e5, ?_⟩
    refine ⟨hnd (c4 := some (.dat (.d (eP q)))) (c7 := some (.dat (.d (ePins bs)))) (.inr ⟨_, rfl⟩) (.inr ⟨_, rfl⟩) (.inr ⟨_, rfl⟩), ?_⟩
    refine ⟨_, rfl, fl, pins, p, q, rfl, hf, by omega, hp, ?_⟩
    rw [hB]
    refine ⟨_, rfl, _, rfl, okkP.key q, _, rfl, _, rfl, slast, elast, _, rfl, rfl, hn _ ⟨some (.dat (.d (eP q))), some (.dat (.d (ePins bs))), _, .inr ⟨_, rfl⟩, .inr ⟨_, rfl⟩, .inr ⟨_, rfl⟩, rfl⟩⟩
  · obtain ⟨l, r, hlr⟩ : ∃ l r, bs = l :: r := by
      cases bs with
      | nil => exact absurd rfl hb
      | cons l r => exact ⟨l, r, rfl⟩
    refine .inr ⟨fun z => z = eLs l, ⟨fl, pins, p, q, l, r, rfl, hf, hpin, hbs.trans hlr, rfl⟩, fun z ez => ?_⟩
    subst ez
    have slease := (sz_two (sz_str (x := "no way") (by decide)) (szls l (hbm l (by rw [hlr]; exact List.mem_cons_self)))).shw (by decide) (by decide)
    have elease : PyData.eqv (.tuple [.str "no way", eLs l]) (.tuple [.str "no way", eLs l]) = true := ((okd_2 okd_str okLs).eq ("no way", l) ("no way", l)).trans (by simp)
    refine ⟨hnd (c4 := some (.dat (.d (eP q)))) (c7 := some (.dat (.d (ePins bs)))) (.inr ⟨_, rfl⟩) (.inr ⟨_, rfl⟩) (.inr ⟨_, rfl⟩), ?_⟩
    refine ⟨_, rfl, le_ok, Nat.le_trans (Nat.min_le_left _ _) dbs, _, rfl, e1 hb ?_⟩
    refine ⟨_, atI_map (l := bs) (i := 0) (a := l) (by rw [hlr]; rfl), _, rfl, le_ok, _, rfl, _, rfl, slease, elease, _, rfl, rfl, ?_⟩
    refine ⟨hnd (c4 := some (.dat (.d (eP q)))) (c7 := some (.dat (.d (ePins bs)))) (.inr ⟨_, rfl⟩) (.inr ⟨_, rfl⟩) (.inr ⟨_, rfl⟩), ?_⟩
    refine ⟨_, rfl, le_ok, Nat.le_trans (Nat.min_le_left _ _) dbs, _, rfl, e3 hb ⟨rfl, ?_⟩⟩
    refine ⟨hnd (c4 := some (.dat (.d (eP q)))) (c7 := some (.dat (.d (ePins bs)))) (.inr ⟨_, rfl⟩) (.inr ⟨_, rfl⟩) (.inr ⟨_, rfl⟩), ?_⟩
    refine ⟨_, rfl, fl, pins, p, q, rfl, hf, by omega, hp, ?_⟩
    rw [hB]
    exact ⟨_, rfl, _, rfl, okkP.key q, _, rfl, _, rfl, slast, elast, _, rfl, rfl, hn _ ⟨some (.dat (.d (eP q))), some (.dat (.d (ePins bs))), _, .inr ⟨_, rfl⟩, .inr ⟨_, rfl⟩, .inr ⟨_, rfl⟩, rfl⟩⟩
end
end SH
end P21
section JE
set_option Elab.async false
set_option linter.all false
set_option maxRecDepth 100000
set_option maxHeartbeats 2000000
/-! JE: the end: the law is called with a script; the guards are known there -/
namespace DL
open PySem PySem.Spec PyProof.Rows L2 LamX
theorem law_callG {P : Program} {w : World} {K : PySem.W.Frag} {mg mb : Str → Option Value} {CX : CXT} {k : Nat} {fa a c Pt : Addr} {fd : FuncData} {x : Str} {sp : Sp} {s1 : Shared} {vs : List Value} {ns : List Int}
    (KX : K.In s1.heap) (hns : s1.heap.Ns mainGlobals mg) (hb : s1.heap.Ns builtinsNs mb) (hbb : ∀ x : Str, x ≠ "__name__" → mb x = bootBuiltins x) (hlim : s1.heap.NoLimit) (hg : s1.gens = #[])
    (hT : s1.heap.get? Pt = some { cls := .none, data := .fields #[] }) (nT : K.lookup Pt = none) (C : PySem.W.CodeHd s1.heap c Pt)
    (hbm : ∃ (bm : Addr) (ob : Obj), mg "__builtins__" = some (.ref bm) ∧ bm ≠ builtinsNs ∧ s1.heap.get? bm = some ob ∧ ob.cls = .type "module" ∧ ob.dict = some builtinsNs ∧ ob.data = .plain)
    (ha : s1.heap.get? a = some { cls := .type "list", data := .seq vs.toArray }) (nA : K.lookup a = none) (hi : IntsAre vs ns) (hl : ns.length ≤ sizeLine) (hr : RoomG k callerA)
    (F : ∀ base : Heap, K.In base → base.Ns mainGlobals mg → TabB base mg c Pt → FnG P w K mg base CX k fa fd [x] sp) (hbind : ∀ (s : Shared) (u : Value), BindsTo s fd ⟨[u], []⟩ [(x, u)])
    (hsp : ∀ (H : Hp) (o : Obj), H Pt = some (.tbl #[]) → H a = some (.frz o (.lst (ns.map V.int))) → sp [.ref a] H (fun v _ => v = .bl true) fun _ _ _ => False)
    (hCX : ∀ H e s', CX [] H s1 (fun _ _ _ => False) e s' → False) :
    codeAny (model P w) callerA (.call (.ref fa) ⟨[.ref a], []⟩) (fun r s' => r = .ok (.ret (.bool true)) ∧ OldK s1.heap s'.heap ∧ s'.os = s1.os ∧ AllBare s'.gens) s1 := by
  have aP : a ≠ Pt := fun z => by
    rw [z, hT] at ha
    cases ha
  let ol : Obj := { cls := .type "list", data := .seq vs.toArray }
  let H : Hp := fun b => if b = a then some (.frz ol (.lst (ns.map V.int))) else if b = Pt then some (.tbl #[]) else none
  have Ha : H a = some (.frz ol (.lst (ns.map V.int))) := if_pos rfl
  have Hp' : H Pt = some (.tbl #[]) := (if_neg (Ne.symm aP)).trans (if_pos rfl)
  have Hn : ∀ b, b ≠ a → b ≠ Pt → H b = none := fun b h1 h2 => (if_neg h1).trans (if_neg h2)
  have Hc : ∀ b u, H b = some u → b = a ∨ b = Pt := fun b u e => by
    by_cases h1 : b = a
    · exact .inl h1
    by_cases h2 : b = Pt
    · exact .inr h2
    rw [Hn b h1 h2] at e
    cases e
  have hok : HOk P w H s1.heap := fun b u e => by
    rcases Hc b u e with rfl | rfl
    · rw [Ha] at e
      cases e
      exact ⟨ha, by rw [List.length_map]; exact hl, vs, _, vals_ints hi, ha⟩
    · rw [Hp'] at e
      cases e
      exact hT
  have base_of : ∀ {b : Addr} {o : Obj}, s1.heap.get? b = some o → H b = none → (hidT s1.heap H).get? b = some o := fun e n => hidT_get e n
  -- what is neither the script's nor the table's
  have off : ∀ {b : Addr} {o : Obj}, s1.heap.get? b = some o → (∀ vs n, o.data ≠ .seq vs n) → o.data ≠ .fields #[] → H b = none := fun {b o} e h1 h2 => by
    refine Hn b (fun z => ?_) fun z => ?_
    · rw [z, ha] at e
      cases e
      exact h1 _ _ rfl
    · rw [z, hT] at e
      cases e
      exact h2 rfl
  have offD : ∀ {b : Addr} {o : Obj} {es : Array DictEntry} {ep : Nat}, s1.heap.get? b = some o → o.data = .dict es ep → H b = none := fun e d => off e (fun vs n z => by rw [d] at z; cases z) fun z => by rw [d] at z; cases z
  have nsK : ∀ {b : Addr} {m : Str → Option Value}, s1.heap.Ns b m → (hidT s1.heap H).Ns b m := fun ⟨o, es, ep, e, d, r⟩ => ⟨o, es, ep, base_of e (offD e d), d, r⟩
  have hKb : K.In (hidT s1.heap H) := fun b o e => base_of (KX b o e) (Hn b (fun z => by rw [z, nA] at e; cases e) fun z => by rw [z, nT] at e; cases e)
  have hM : L2.Mod K mg (hidT s1.heap H) := ⟨hKb, nsK hns, ⟨mb, nsK hb, hbb⟩, let ⟨mc, h1, h2⟩ := hlim; ⟨mc, nsK h1, h2⟩⟩
  have TB : TabB (hidT s1.heap H) mg c Pt := by
    refine ⟨?_, ?_, fun z => ?_⟩
    · obtain ⟨o, us, file, tf, flags, tg, inF, text, tt, e1, r1, r2, r3, r4, r5, r6, r7, r8, hne⟩ := C
      refine ⟨o, us, file, tf, flags, tg, inF, text, tt, base_of e1 (off e1 (fun vs n z => by rw [r2] at z; cases z) fun z => ?_), r1, r2, r3, r4, r5, r6, r7, r8, hne⟩
      rw [r2] at z
      cases z
      simp at r3
    · obtain ⟨bm, ob, b1, b2, b3, b4, b5, b6⟩ := hbm
      have e0 : H bm = none := off b3 (fun vs n z => by rw [b6] at z; cases z) fun z => by rw [b6] at z; cases z
      refine ⟨bm, ob, b1, b2, fun q => ?_, fun q => ?_, base_of b3 e0, b4, b5, b6⟩
      · obtain ⟨o, es, ep, e, hd, _⟩ := hns
        rw [q, e] at b3
        cases b3
        rw [hd] at b6
        cases b6
      · rw [q, hT] at b3
        cases b3
        cases b6
    · obtain ⟨o, es, ep, e, hd, _⟩ := hns
      rw [z, hT] at e
      cases e
      cases hd
  have e0 : Env0 P w K mg (hidT s1.heap H) callerA [] s1 H := ⟨rfl, hM, fun b o e => of_hidT e, Nat.le_of_eq (hidT_size _ _), trivial, fun b hb => (by cases hb), hok, .of_eq hg⟩
  refine codeAny_mono ((F _ hKb (nsK hns) TB).run callerA [] s1 H ⟨[.ref a], []⟩ [.ref a] [.ref a] _ _ hr e0 (hbind s1 (.ref a)) (.cons rfl .nil) (hsp H ol Hp' Ha)) fun r s2 h => ?_
  match r, h with
  | .error e, h => exact (hCX H e s2 h).elim
  | .ok .next, h => exact False.elim h
  | .ok .brk, h => exact False.elim h
  | .ok .cont, h => exact False.elim h
  | .ok (.ret u), ⟨v, H2, os, bare, un, hok2, r2, q⟩ =>
    have q : v = .bl true := q
    subst q
    obtain rfl : u = Value.bool true := r2
    have here : s2.heap.get? a = some ol := (hok2 a _ (un.frzs a ol _ Ha)).1
    obtain ⟨more, hm⟩ := un.tbls Pt #[] Hp'
    have grown : s2.heap.get? Pt = some { cls := .none, data := .fields (#[] ++ more) } := hok2 Pt _ hm
    have rest : ∀ b o, b ≠ a → b ≠ Pt → s1.heap.get? b = some o → s2.heap.get? b = some o := fun b o h1 h2 e => un.keep b o e (Hn b h1 h2) (fun z => by cases z) (fun z => by cases z)
    refine ⟨rfl, ⟨fun b o e => ?_, fun b o e => ?_⟩, os, bare⟩
    · by_cases h1 : b = a
      · rw [h1, ha] at e
        cases e
        exact .inl (by rw [h1]; exact here)
      by_cases h2 : b = Pt
      · rw [h2, hT] at e
        cases e
        rw [h2]
        exact .inr (.inl ⟨(C.tab hT).isCodeTable, rfl, #[], more, rfl, grown⟩)
      · exact .inl (rest b o h1 h2 e)
    · by_cases h1 : b = a
      · exact ⟨_, by rw [h1]; exact here⟩
      by_cases h2 : b = Pt
      · exact ⟨_, by rw [h2]; exact grown⟩
      · exact ⟨o, rest b o h1 h2 e⟩
theorem lookup_mem {β : Type} {a : Addr} {b : β} : ∀ {l : List (Addr × β)}, l.lookup a = some b → (a, b) ∈ l
  | [], h => by cases h
  | (x, y) :: l, h => by
    by_cases e : a = x
    · subst e
      simp [List.lookup] at h
      rw [h]; exact List.mem_cons_self
    · have e2 : (a == x) = false := by simpa using e
      simp [List.lookup, e2] at h
      exact List.mem_cons_of_mem _ (lookup_mem h)
/-- what is known of the law at the head's heap -/
def LawG (l : PySem.W.OpenLaw) (w : World) (K : PySem.W.Frag) (CX : CXT) (k n : Nat) (x : Str) (mg : Str → Option Value) (fa : Addr) (h : Heap) : Prop :=
  ∃ (fd : FuncData) (c Pt : Addr) (sp : Sp), h.get? Pt = some { cls := .none, data := .fields #[] } ∧ K.lookup Pt = none ∧ PySem.W.CodeHd h c Pt ∧ (K.all fun p => decide (p.2.cls ≠ .type "list")) = true ∧ (∀ (s : Shared) (u : Value), BindsTo s fd ⟨[u], []⟩ [(x, u)]) ∧
    (∀ (H : Hp) (a : Addr) (o : Obj) (ns : List Int), ns.length ≤ n → H Pt = some (.tbl #[]) → H a = some (.frz o (.lst (ns.map V.int))) → sp [.ref a] H (fun v _ => v = .bl true) fun _ _ _ => False) ∧
    ∀ base : Heap, K.In base → base.Ns mainGlobals mg → TabB base mg c Pt → FnG l.prog w K mg base CX k fa fd [x] sp
theorem walk_ofG {l : PySem.W.OpenLaw} {n k : Nat} {q : Program} {loose : List Str} {XP : (Str → Option Value) → Heap → Prop} {YP : World → Heap → Prop} {d : DefRec} {K : Params → PySem.W.Frag} {CX : World → CXT} {x : Str}
    (hn : l.most = some n) (hn2 : n ≤ sizeLine) (hdf : d.params.defaults = []) (hr : RoomG k callerA) (hY : ∀ (w : World) (h : Heap), YP w h → (K w.params).In h)
    (F : ∀ (w : World) (mg : Str → Option Value) (fa : Addr) (h : Heap), YP w h → (K w.params).In h → h.Ns mainGlobals mg → mg d.name = some (.ref fa) → LawG l w (K w.params) (CX w) k n x mg fa h)
    (hCX : ∀ (w : World) (H : Hp) (s : Shared) (e : Value) (s' : Shared), CX w [] H s (fun _ _ _ => False) e s' → False) :
    PySem.W.WalkO q loose XP YP l.row.toRowW d [] (fun f vs => PySem.call f vs) := by
  refine Att.attach_callB hn hdf fun w s0 s1 mg mb fa o pm cd doc a vs ns G Y ho hd hcd hmg hobj hints hlen hbits hg => ?_
  have KX := hY w _ Y
  obtain ⟨fd, c, Pt, sp, hT, nT, C, nl, hb, hsp, hF⟩ := F w mg fa _ Y KX G.T.g hmg
  have nA : (K w.params).lookup a = none := by
    cases e : (K w.params).lookup a with
    | none => rfl
    | some u =>
      have hm := List.all_eq_true.mp nl (a, u) (lookup_mem e)
      have e2 := KX a u e
      rw [hobj] at e2
      cases e2
      exact absurd rfl (of_decide_eq_true hm)
  exact law_callG KX G.T.g G.T.b G.T.builtins G.T.nolimit hg hT nT C G.T.bmain hobj nA hints (Nat.le_trans hlen hn2) hr hF hb (fun H o h1 h2 => hsp H a o ns hlen h1 h2) fun H e s' => hCX w H s1 e s'
end DL
end JE
section JF
set_option Elab.async false
set_option linter.all false
set_option maxRecDepth 100000
set_option maxHeartbeats 8000000
/-! JF: the promises of all defs, joined -/
namespace DL
open PySem PySem.Spec PyProof.Rows L2
theorem CalX.mono {P : Program} {w : World} {K : PySem.W.Frag} {mg : Str → Option Value} {base : Heap} {j k : Nat} {x : Str} {n : Nat} {C : Addr} {F : Pr} {G : PrX} (c : CalX P w K mg base j x n C F G) (h : j ≤ k) : CalX P w K mg base k x n C F G :=
  let ⟨f, fd, ps, h1, h2, h3, h4⟩ := c.ex; ⟨c.lenF, c.lenG, f, fd, ps, h1, h2, h3, h4.mono h⟩
end DL
namespace SH
open PySem PySem.Spec PyProof.Rows L2 DL SM LamX
/-- a def stands where the top has left it -/
structure FunAt (K : PySem.W.Frag) (mg : Str → Option Value) (x : Str) (i : Nat) (ps : List Str) : Prop where
  ex : ∃ (f : Addr) (fd : FuncData), mg x = some (.ref f) ∧ Fun K x x (topS i) f fd ∧ L2.Binds K fd ps []
theorem fun_at {K : PySem.W.Frag} {h : Heap} {mg : Str → Option Value} {x : Str} {i : Nat} {f : Addr} {ps : List Str} {oc kV doc pm cdv ct : Value} {od an : Option Addr} {osl : Array (Option Value)} (X : K.In h) (G : h.Ns mainGlobals mg) (a : PySem.W.nsIn K mainGlobals x = some (some (.ref f)))
    (l : K.lookup f = some ⟨oc, od, .func (PySem.W.fnOf x x (defArgs (topS i)) (defBody (topS i)) (defScope (topS i)) .none kV doc pm an cdv ct), osl⟩) (c : PySem.W.codeIn K cdv x = true) (k : PySem.W.keepIn K (.ref f) = true)
    (b : ∀ (kV doc pm : Value) (an : Option Addr) (cdv ct : Value) (us : List Value), us.length = ps.length → bindArgs (PySem.W.fnOf x x (defArgs (topS i)) (defBody (topS i)) (defScope (topS i)) .none kV doc pm an cdv ct) ⟨us, []⟩ = pure (ps.zip us)) : FunAt K mg x i ps :=
  ⟨f, _, PySem.W.mg_of X G a, fun_mk l c k, (fun_mk l c k).binds b⟩
theorem bdis_integer (kV doc pm : Value) (an : Option Addr) (cdv ct : Value) (us : List Value) (hl : us.length = (["thing"] : List Str).length) : bindArgs (PySem.W.fnOf "is_integer" "is_integer" (defArgs (topS 8)) (defBody (topS 8)) (defScope (topS 8)) .none kV doc pm an cdv ct) ⟨us, []⟩ = pure ((["thing"] : List Str).zip us) :=
  match us, hl with | [_], _ => rfl
theorem bdis_name (kV doc pm : Value) (an : Option Addr) (cdv ct : Value) (us : List Value) (hl : us.length = (["thing"] : List Str).length) : bindArgs (PySem.W.fnOf "is_name" "is_name" (defArgs (topS 9)) (defBody (topS 9)) (defScope (topS 9)) .none kV doc pm an cdv ct) ⟨us, []⟩ = pure ((["thing"] : List Str).zip us) :=
  match us, hl with | [_], _ => rfl
theorem bdis_service (kV doc pm : Value) (an : Option Addr) (cdv ct : Value) (us : List Value) (hl : us.length = (["fleet", "thing"] : List Str).length) : bindArgs (PySem.W.fnOf "is_service" "is_service" (defArgs (topS 10)) (defBody (topS 10)) (defScope (topS 10)) .none kV doc pm an cdv ct) ⟨us, []⟩ = pure ((["fleet", "thing"] : List Str).zip us) :=
  match us, hl with | [_, _], _ => rfl
theorem bdis_lease (kV doc pm : Value) (an : Option Addr) (cdv ct : Value) (us : List Value) (hl : us.length = (["fleet", "thing"] : List Str).length) : bindArgs (PySem.W.fnOf "is_lease" "is_lease" (defArgs (topS 11)) (defBody (topS 11)) (defScope (topS 11)) .none kV doc pm an cdv ct) ⟨us, []⟩ = pure ((["fleet", "thing"] : List Str).zip us) :=
  match us, hl with | [_, _], _ => rfl
theorem bdsize (kV doc pm : Value) (an : Option Addr) (cdv ct : Value) (us : List Value) (hl : us.length = (["fleet"] : List Str).length) : bindArgs (PySem.W.fnOf "size" "size" (defArgs (topS 13)) (defBody (topS 13)) (defScope (topS 13)) .none kV doc pm an cdv ct) ⟨us, []⟩ = pure ((["fleet"] : List Str).zip us) :=
  match us, hl with | [_], _ => rfl
theorem bdrestarts_of (kV doc pm : Value) (an : Option Addr) (cdv ct : Value) (us : List Value) (hl : us.length = (["fleet", "service"] : List Str).length) : bindArgs (PySem.W.fnOf "restarts_of" "restarts_of" (defArgs (topS 14)) (defBody (topS 14)) (defScope (topS 14)) .none kV doc pm an cdv ct) ⟨us, []⟩ = pure ((["fleet", "service"] : List Str).zip us) :=
  match us, hl with | [_, _], _ => rfl
theorem bdleases_of (kV doc pm : Value) (an : Option Addr) (cdv ct : Value) (us : List Value) (hl : us.length = (["fleet"] : List Str).length) : bindArgs (PySem.W.fnOf "leases_of" "leases_of" (defArgs (topS 15)) (defBody (topS 15)) (defScope (topS 15)) .none kV doc pm an cdv ct) ⟨us, []⟩ = pure ((["fleet"] : List Str).zip us) :=
  match us, hl with | [_], _ => rfl
theorem bdlease_in (kV doc pm : Value) (an : Option Addr) (cdv ct : Value) (us : List Value) (hl : us.length = (["fleet", "service", "stretch"] : List Str).length) : bindArgs (PySem.W.fnOf "lease_in" "lease_in" (defArgs (topS 16)) (defBody (topS 16)) (defScope (topS 16)) .none kV doc pm an cdv ct) ⟨us, []⟩ = pure ((["fleet", "service", "stretch"] : List Str).zip us) :=
  match us, hl with | [_, _, _], _ => rfl
theorem bdend_of (kV doc pm : Value) (an : Option Addr) (cdv ct : Value) (us : List Value) (hl : us.length = (["fleet", "lease"] : List Str).length) : bindArgs (PySem.W.fnOf "end_of" "end_of" (defArgs (topS 17)) (defBody (topS 17)) (defScope (topS 17)) .none kV doc pm an cdv ct) ⟨us, []⟩ = pure ((["fleet", "lease"] : List Str).zip us) :=
  match us, hl with | [_, _], _ => rfl
theorem bdreduced (kV doc pm : Value) (an : Option Addr) (cdv ct : Value) (us : List Value) (hl : us.length = (["word"] : List Str).length) : bindArgs (PySem.W.fnOf "reduced" "reduced" (defArgs (topS 19)) (defBody (topS 19)) (defScope (topS 19)) .none kV doc pm an cdv ct) ⟨us, []⟩ = pure ((["word"] : List Str).zip us) :=
  match us, hl with | [_], _ => rfl
theorem bdjoined (kV doc pm : Value) (an : Option Addr) (cdv ct : Value) (us : List Value) (hl : us.length = (["first", "second"] : List Str).length) : bindArgs (PySem.W.fnOf "joined" "joined" (defArgs (topS 20)) (defBody (topS 20)) (defScope (topS 20)) .none kV doc pm an cdv ct) ⟨us, []⟩ = pure ((["first", "second"] : List Str).zip us) :=
  match us, hl with | [_, _], _ => rfl
theorem bdcommon_length (kV doc pm : Value) (an : Option Addr) (cdv ct : Value) (us : List Value) (hl : us.length = (["one", "other"] : List Str).length) : bindArgs (PySem.W.fnOf "common_length" "common_length" (defArgs (topS 21)) (defBody (topS 21)) (defScope (topS 21)) .none kV doc pm an cdv ct) ⟨us, []⟩ = pure ((["one", "other"] : List Str).zip us) :=
  match us, hl with | [_, _], _ => rfl
theorem bdway (kV doc pm : Value) (an : Option Addr) (cdv ct : Value) (us : List Value) (hl : us.length = (["one", "other"] : List Str).length) : bindArgs (PySem.W.fnOf "way" "way" (defArgs (topS 22)) (defBody (topS 22)) (defScope (topS 22)) .none kV doc pm an cdv ct) ⟨us, []⟩ = pure ((["one", "other"] : List Str).zip us) :=
  match us, hl with | [_, _], _ => rfl
theorem bdvertices_of (kV doc pm : Value) (an : Option Addr) (cdv ct : Value) (us : List Value) (hl : us.length = (["fleet", "plan"] : List Str).length) : bindArgs (PySem.W.fnOf "vertices_of" "vertices_of" (defArgs (topS 24)) (defBody (topS 24)) (defScope (topS 24)) .none kV doc pm an cdv ct) ⟨us, []⟩ = pure ((["fleet", "plan"] : List Str).zip us) :=
  match us, hl with | [_, _], _ => rfl
theorem bdedges_with (kV doc pm : Value) (an : Option Addr) (cdv ct : Value) (us : List Value) (hl : us.length = (["edges", "service"] : List Str).length) : bindArgs (PySem.W.fnOf "edges_with" "edges_with" (defArgs (topS 26)) (defBody (topS 26)) (defScope (topS 26)) .none kV doc pm an cdv ct) ⟨us, []⟩ = pure ((["edges", "service"] : List Str).zip us) :=
  match us, hl with | [_, _], _ => rfl
theorem bdaparts (kV doc pm : Value) (an : Option Addr) (cdv ct : Value) (us : List Value) (hl : us.length = (["fleet", "one", "other"] : List Str).length) : bindArgs (PySem.W.fnOf "aparts" "aparts" (defArgs (topS 27)) (defBody (topS 27)) (defScope (topS 27)) .none kV doc pm an cdv ct) ⟨us, []⟩ = pure ((["fleet", "one", "other"] : List Str).zip us) :=
  match us, hl with | [_, _, _], _ => rfl
theorem bdcan_be_edited (kV doc pm : Value) (an : Option Addr) (cdv ct : Value) (us : List Value) (hl : us.length = (["fleet", "plan", "pins", "lease"] : List Str).length) : bindArgs (PySem.W.fnOf "can_be_edited" "can_be_edited" (defArgs (topS 29)) (defBody (topS 29)) (defScope (topS 29)) .none kV doc pm an cdv ct) ⟨us, []⟩ = pure ((["fleet", "plan", "pins", "lease"] : List Str).zip us) :=
  match us, hl with | [_, _, _, _], _ => rfl
theorem bdedits_of (kV doc pm : Value) (an : Option Addr) (cdv ct : Value) (us : List Value) (hl : us.length = (["fleet", "plan", "pins"] : List Str).length) : bindArgs (PySem.W.fnOf "edits_of" "edits_of" (defArgs (topS 30)) (defBody (topS 30)) (defScope (topS 30)) .none kV doc pm an cdv ct) ⟨us, []⟩ = pure ((["fleet", "plan", "pins"] : List Str).zip us) :=
  match us, hl with | [_, _, _], _ => rfl
theorem bdturned_hops (kV doc pm : Value) (an : Option Addr) (cdv ct : Value) (us : List Value) (hl : us.length = (["fleet", "lease"] : List Str).length) : bindArgs (PySem.W.fnOf "turned_hops" "turned_hops" (defArgs (topS 31)) (defBody (topS 31)) (defScope (topS 31)) .none kV doc pm an cdv ct) ⟨us, []⟩ = pure ((["fleet", "lease"] : List Str).zip us) :=
  match us, hl with | [_, _], _ => rfl
theorem bdedited (kV doc pm : Value) (an : Option Addr) (cdv ct : Value) (us : List Value) (hl : us.length = (["fleet", "plan", "pins", "lease"] : List Str).length) : bindArgs (PySem.W.fnOf "edited" "edited" (defArgs (topS 32)) (defBody (topS 32)) (defScope (topS 32)) .none kV doc pm an cdv ct) ⟨us, []⟩ = pure ((["fleet", "plan", "pins", "lease"] : List Str).zip us) :=
  match us, hl with | [_, _, _, _], _ => rfl
theorem bddifferences (kV doc pm : Value) (an : Option Addr) (cdv ct : Value) (us : List Value) (hl : us.length = (["fleet", "one", "other"] : List Str).length) : bindArgs (PySem.W.fnOf "differences" "differences" (defArgs (topS 34)) (defBody (topS 34)) (defScope (topS 34)) .none kV doc pm an cdv ct) ⟨us, []⟩ = pure ((["fleet", "one", "other"] : List Str).zip us) :=
  match us, hl with | [_, _, _], _ => rfl
theorem bdrows_of (kV doc pm : Value) (an : Option Addr) (cdv ct : Value) (us : List Value) (hl : us.length = (["fleet", "one", "other"] : List Str).length) : bindArgs (PySem.W.fnOf "rows_of" "rows_of" (defArgs (topS 36)) (defBody (topS 36)) (defScope (topS 36)) .none kV doc pm an cdv ct) ⟨us, []⟩ = pure ((["fleet", "one", "other"] : List Str).zip us) :=
  match us, hl with | [_, _, _], _ => rfl
theorem bdsteps_ahead (kV doc pm : Value) (an : Option Addr) (cdv ct : Value) (us : List Value) (hl : us.length = (["fleet", "one", "other"] : List Str).length) : bindArgs (PySem.W.fnOf "steps_ahead" "steps_ahead" (defArgs (topS 37)) (defBody (topS 37)) (defScope (topS 37)) .none kV doc pm an cdv ct) ⟨us, []⟩ = pure ((["fleet", "one", "other"] : List Str).zip us) :=
  match us, hl with | [_, _, _], _ => rfl
theorem bdturned_about (kV doc pm : Value) (an : Option Addr) (cdv ct : Value) (us : List Value) (hl : us.length = (["ahead"] : List Str).length) : bindArgs (PySem.W.fnOf "turned_about" "turned_about" (defArgs (topS 38)) (defBody (topS 38)) (defScope (topS 38)) .none kV doc pm an cdv ct) ⟨us, []⟩ = pure ((["ahead"] : List Str).zip us) :=
  match us, hl with | [_], _ => rfl
theorem bdin_order (kV doc pm : Value) (an : Option Addr) (cdv ct : Value) (us : List Value) (hl : us.length = (["ahead"] : List Str).length) : bindArgs (PySem.W.fnOf "in_order" "in_order" (defArgs (topS 39)) (defBody (topS 39)) (defScope (topS 39)) .none kV doc pm an cdv ct) ⟨us, []⟩ = pure ((["ahead"] : List Str).zip us) :=
  match us, hl with | [_], _ => rfl
theorem bdbarring (kV doc pm : Value) (an : Option Addr) (cdv ct : Value) (us : List Value) (hl : us.length = (["fleet", "pins", "one", "other"] : List Str).length) : bindArgs (PySem.W.fnOf "barring" "barring" (defArgs (topS 42)) (defBody (topS 42)) (defScope (topS 42)) .none kV doc pm an cdv ct) ⟨us, []⟩ = pure ((["fleet", "pins", "one", "other"] : List Str).zip us) :=
  match us, hl with | [_, _, _, _], _ => rfl
theorem bdleads (kV doc pm : Value) (an : Option Addr) (cdv ct : Value) (us : List Value) (hl : us.length = (["fleet", "pins", "one", "other"] : List Str).length) : bindArgs (PySem.W.fnOf "leads" "leads" (defArgs (topS 43)) (defBody (topS 43)) (defScope (topS 43)) .none kV doc pm an cdv ct) ⟨us, []⟩ = pure ((["fleet", "pins", "one", "other"] : List Str).zip us) :=
  match us, hl with | [_, _, _, _], _ => rfl
theorem bdcheck_leads (kV doc pm : Value) (an : Option Addr) (cdv ct : Value) (us : List Value) (hl : us.length = (["fleet", "pins", "one", "other"] : List Str).length) : bindArgs (PySem.W.fnOf "check_leads" "check_leads" (defArgs (topS 44)) (defBody (topS 44)) (defScope (topS 44)) .none kV doc pm an cdv ct) ⟨us, []⟩ = pure ((["fleet", "pins", "one", "other"] : List Str).zip us) :=
  match us, hl with | [_, _, _, _], _ => rfl
theorem bdscript_to (kV doc pm : Value) (an : Option Addr) (cdv ct : Value) (us : List Value) (hl : us.length = (["fleet", "pins", "one", "other"] : List Str).length) : bindArgs (PySem.W.fnOf "script_to" "script_to" (defArgs (topS 45)) (defBody (topS 45)) (defScope (topS 45)) .none kV doc pm an cdv ct) ⟨us, []⟩ = pure ((["fleet", "pins", "one", "other"] : List Str).zip us) :=
  match us, hl with | [_, _, _, _], _ => rfl
theorem bdedits_from (kV doc pm : Value) (an : Option Addr) (cdv ct : Value) (us : List Value) (hl : us.length = (["fleet", "pins", "plan"] : List Str).length) : bindArgs (PySem.W.fnOf "edits_from" "edits_from" (defArgs (topS 46)) (defBody (topS 46)) (defScope (topS 46)) .none kV doc pm an cdv ct) ⟨us, []⟩ = pure ((["fleet", "pins", "plan"] : List Str).zip us) :=
  match us, hl with | [_, _, _], _ => rfl
theorem bdclass_of (kV doc pm : Value) (an : Option Addr) (cdv ct : Value) (us : List Value) (hl : us.length = (["fleet", "pins", "plan"] : List Str).length) : bindArgs (PySem.W.fnOf "class_of" "class_of" (defArgs (topS 47)) (defBody (topS 47)) (defScope (topS 47)) .none kV doc pm an cdv ct) ⟨us, []⟩ = pure ((["fleet", "pins", "plan"] : List Str).zip us) :=
  match us, hl with | [_, _, _], _ => rfl
theorem bdfewest_edits (kV doc pm : Value) (an : Option Addr) (cdv ct : Value) (us : List Value) (hl : us.length = (["fleet", "pins", "one", "other"] : List Str).length) : bindArgs (PySem.W.fnOf "fewest_edits" "fewest_edits" (defArgs (topS 48)) (defBody (topS 48)) (defScope (topS 48)) .none kV doc pm an cdv ct) ⟨us, []⟩ = pure ((["fleet", "pins", "one", "other"] : List Str).zip us) :=
  match us, hl with | [_, _, _, _], _ => rfl
theorem bd_law_bag (kV doc pm : Value) (an : Option Addr) (cdv ct : Value) (us : List Value) (hl : us.length = (["_law_script"] : List Str).length) : bindArgs (PySem.W.fnOf "_law_bag" "_law_bag" (defArgs (topS 50)) (defBody (topS 50)) (defScope (topS 50)) .none kV doc pm an cdv ct) ⟨us, []⟩ = pure ((["_law_script"] : List Str).zip us) :=
  match us, hl with | [_], _ => rfl
theorem bd_law_take (kV doc pm : Value) (an : Option Addr) (cdv ct : Value) (us : List Value) (hl : us.length = (["_law_bag_here", "_law_many"] : List Str).length) : bindArgs (PySem.W.fnOf "_law_take" "_law_take" (defArgs (topS 51)) (defBody (topS 51)) (defScope (topS 51)) .none kV doc pm an cdv ct) ⟨us, []⟩ = pure ((["_law_bag_here", "_law_many"] : List Str).zip us) :=
  match us, hl with | [_, _], _ => rfl
theorem bd_law_some (kV doc pm : Value) (an : Option Addr) (cdv ct : Value) (us : List Value) (hl : us.length = (["_law_bag_here", "_law_things"] : List Str).length) : bindArgs (PySem.W.fnOf "_law_some" "_law_some" (defArgs (topS 52)) (defBody (topS 52)) (defScope (topS 52)) .none kV doc pm an cdv ct) ⟨us, []⟩ = pure ((["_law_bag_here", "_law_things"] : List Str).zip us) :=
  match us, hl with | [_, _], _ => rfl
theorem bd_law_mixed (kV doc pm : Value) (an : Option Addr) (cdv ct : Value) (us : List Value) (hl : us.length = (["_law_bag_here", "_law_things"] : List Str).length) : bindArgs (PySem.W.fnOf "_law_mixed" "_law_mixed" (defArgs (topS 53)) (defBody (topS 53)) (defScope (topS 53)) .none kV doc pm an cdv ct) ⟨us, []⟩ = pure ((["_law_bag_here", "_law_things"] : List Str).zip us) :=
  match us, hl with | [_, _], _ => rfl
theorem bd_law_alike (kV doc pm : Value) (an : Option Addr) (cdv ct : Value) (us : List Value) (hl : us.length = (["_law_found", "_law_due"] : List Str).length) : bindArgs (PySem.W.fnOf "_law_alike" "_law_alike" (defArgs (topS 54)) (defBody (topS 54)) (defScope (topS 54)) .none kV doc pm an cdv ct) ⟨us, []⟩ = pure ((["_law_found", "_law_due"] : List Str).zip us) :=
  match us, hl with | [_, _], _ => rfl
theorem bd_law_names (kV doc pm : Value) (an : Option Addr) (cdv ct : Value) (us : List Value) (hl : us.length = (["_law_bag_here", "_law_many"] : List Str).length) : bindArgs (PySem.W.fnOf "_law_names" "_law_names" (defArgs (topS 55)) (defBody (topS 55)) (defScope (topS 55)) .none kV doc pm an cdv ct) ⟨us, []⟩ = pure ((["_law_bag_here", "_law_many"] : List Str).zip us) :=
  match us, hl with | [_, _], _ => rfl
theorem bd_law_fleet (kV doc pm : Value) (an : Option Addr) (cdv ct : Value) (us : List Value) (hl : us.length = (["_law_bag_here", "_law_many", "_law_most"] : List Str).length) : bindArgs (PySem.W.fnOf "_law_fleet" "_law_fleet" (defArgs (topS 56)) (defBody (topS 56)) (defScope (topS 56)) .none kV doc pm an cdv ct) ⟨us, []⟩ = pure ((["_law_bag_here", "_law_many", "_law_most"] : List Str).zip us) :=
  match us, hl with | [_, _, _], _ => rfl
theorem bd_law_plan (kV doc pm : Value) (an : Option Addr) (cdv ct : Value) (us : List Value) (hl : us.length = (["_law_bag_here", "_law_fleet_here"] : List Str).length) : bindArgs (PySem.W.fnOf "_law_plan" "_law_plan" (defArgs (topS 57)) (defBody (topS 57)) (defScope (topS 57)) .none kV doc pm an cdv ct) ⟨us, []⟩ = pure ((["_law_bag_here", "_law_fleet_here"] : List Str).zip us) :=
  match us, hl with | [_, _], _ => rfl
theorem bd_law_end (kV doc pm : Value) (an : Option Addr) (cdv ct : Value) (us : List Value) (hl : us.length = (["_law_fleet_here", "_law_lease"] : List Str).length) : bindArgs (PySem.W.fnOf "_law_end" "_law_end" (defArgs (topS 58)) (defBody (topS 58)) (defScope (topS 58)) .none kV doc pm an cdv ct) ⟨us, []⟩ = pure ((["_law_fleet_here", "_law_lease"] : List Str).zip us) :=
  match us, hl with | [_, _], _ => rfl
theorem bd_law_leases (kV doc pm : Value) (an : Option Addr) (cdv ct : Value) (us : List Value) (hl : us.length = (["_law_fleet_here"] : List Str).length) : bindArgs (PySem.W.fnOf "_law_leases" "_law_leases" (defArgs (topS 59)) (defBody (topS 59)) (defScope (topS 59)) .none kV doc pm an cdv ct) ⟨us, []⟩ = pure ((["_law_fleet_here"] : List Str).zip us) :=
  match us, hl with | [_], _ => rfl
theorem bd_law_pins (kV doc pm : Value) (an : Option Addr) (cdv ct : Value) (us : List Value) (hl : us.length = (["_law_bag_here", "_law_fleet_here"] : List Str).length) : bindArgs (PySem.W.fnOf "_law_pins" "_law_pins" (defArgs (topS 60)) (defBody (topS 60)) (defScope (topS 60)) .none kV doc pm an cdv ct) ⟨us, []⟩ = pure ((["_law_bag_here", "_law_fleet_here"] : List Str).zip us) :=
  match us, hl with | [_, _], _ => rfl
theorem bd_law_stands (kV doc pm : Value) (an : Option Addr) (cdv ct : Value) (us : List Value) (hl : us.length = (["_law_fleet_here", "_law_plan_here"] : List Str).length) : bindArgs (PySem.W.fnOf "_law_stands" "_law_stands" (defArgs (topS 61)) (defBody (topS 61)) (defScope (topS 61)) .none kV doc pm an cdv ct) ⟨us, []⟩ = pure ((["_law_fleet_here", "_law_plan_here"] : List Str).zip us) :=
  match us, hl with | [_, _], _ => rfl
theorem bd_law_reduced (kV doc pm : Value) (an : Option Addr) (cdv ct : Value) (us : List Value) (hl : us.length = (["_law_word"] : List Str).length) : bindArgs (PySem.W.fnOf "_law_reduced" "_law_reduced" (defArgs (topS 62)) (defBody (topS 62)) (defScope (topS 62)) .none kV doc pm an cdv ct) ⟨us, []⟩ = pure ((["_law_word"] : List Str).zip us) :=
  match us, hl with | [_], _ => rfl
theorem bd_law_vertex (kV doc pm : Value) (an : Option Addr) (cdv ct : Value) (us : List Value) (hl : us.length = (["_law_fleet_here", "_law_plan_here", "_law_stretch"] : List Str).length) : bindArgs (PySem.W.fnOf "_law_vertex" "_law_vertex" (defArgs (topS 63)) (defBody (topS 63)) (defScope (topS 63)) .none kV doc pm an cdv ct) ⟨us, []⟩ = pure ((["_law_fleet_here", "_law_plan_here", "_law_stretch"] : List Str).zip us) :=
  match us, hl with | [_, _, _], _ => rfl
theorem bd_law_way (kV doc pm : Value) (an : Option Addr) (cdv ct : Value) (us : List Value) (hl : us.length = (["_law_one", "_law_other"] : List Str).length) : bindArgs (PySem.W.fnOf "_law_way" "_law_way" (defArgs (topS 64)) (defBody (topS 64)) (defScope (topS 64)) .none kV doc pm an cdv ct) ⟨us, []⟩ = pure ((["_law_one", "_law_other"] : List Str).zip us) :=
  match us, hl with | [_, _], _ => rfl
theorem bd_law_apart (kV doc pm : Value) (an : Option Addr) (cdv ct : Value) (us : List Value) (hl : us.length = (["_law_fleet_here", "_law_one", "_law_other", "_law_lease"] : List Str).length) : bindArgs (PySem.W.fnOf "_law_apart" "_law_apart" (defArgs (topS 65)) (defBody (topS 65)) (defScope (topS 65)) .none kV doc pm an cdv ct) ⟨us, []⟩ = pure ((["_law_fleet_here", "_law_one", "_law_other", "_law_lease"] : List Str).zip us) :=
  match us, hl with | [_, _, _, _], _ => rfl
theorem bd_law_near (kV doc pm : Value) (an : Option Addr) (cdv ct : Value) (us : List Value) (hl : us.length = (["_law_fleet_here", "_law_plan_here", "_law_pins_here"] : List Str).length) : bindArgs (PySem.W.fnOf "_law_near" "_law_near" (defArgs (topS 66)) (defBody (topS 66)) (defScope (topS 66)) .none kV doc pm an cdv ct) ⟨us, []⟩ = pure ((["_law_fleet_here", "_law_plan_here", "_law_pins_here"] : List Str).zip us) :=
  match us, hl with | [_, _, _], _ => rfl
theorem bd_law_depths (kV doc pm : Value) (an : Option Addr) (cdv ct : Value) (us : List Value) (hl : us.length = (["_law_fleet_here", "_law_plan_here", "_law_pins_here"] : List Str).length) : bindArgs (PySem.W.fnOf "_law_depths" "_law_depths" (defArgs (topS 67)) (defBody (topS 67)) (defScope (topS 67)) .none kV doc pm an cdv ct) ⟨us, []⟩ = pure ((["_law_fleet_here", "_law_plan_here", "_law_pins_here"] : List Str).zip us) :=
  match us, hl with | [_, _, _], _ => rfl
theorem bd_law_all_plans (kV doc pm : Value) (an : Option Addr) (cdv ct : Value) (us : List Value) (hl : us.length = (["_law_fleet_here"] : List Str).length) : bindArgs (PySem.W.fnOf "_law_all_plans" "_law_all_plans" (defArgs (topS 68)) (defBody (topS 68)) (defScope (topS 68)) .none kV doc pm an cdv ct) ⟨us, []⟩ = pure ((["_law_fleet_here"] : List Str).zip us) :=
  match us, hl with | [_], _ => rfl
theorem bd_law_led (kV doc pm : Value) (an : Option Addr) (cdv ct : Value) (us : List Value) (hl : us.length = (["_law_fleet_here", "_law_pins_here", "_law_plan_here", "_law_script"] : List Str).length) : bindArgs (PySem.W.fnOf "_law_led" "_law_led" (defArgs (topS 69)) (defBody (topS 69)) (defScope (topS 69)) .none kV doc pm an cdv ct) ⟨us, []⟩ = pure ((["_law_fleet_here", "_law_pins_here", "_law_plan_here", "_law_script"] : List Str).zip us) :=
  match us, hl with | [_, _, _, _], _ => rfl
theorem bd_law_tiny (kV doc pm : Value) (an : Option Addr) (cdv ct : Value) (us : List Value) (hl : us.length = (["_law_bag_here"] : List Str).length) : bindArgs (PySem.W.fnOf "_law_tiny" "_law_tiny" (defArgs (topS 70)) (defBody (topS 70)) (defScope (topS 70)) .none kV doc pm an cdv ct) ⟨us, []⟩ = pure ((["_law_bag_here"] : List Str).zip us) :=
  match us, hl with | [_], _ => rfl
theorem bd_law_cut_fleet (kV doc pm : Value) (an : Option Addr) (cdv ct : Value) (us : List Value) (hl : us.length = (["_law_bag_here", "_law_many", "_law_most"] : List Str).length) : bindArgs (PySem.W.fnOf "_law_cut_fleet" "_law_cut_fleet" (defArgs (topS 71)) (defBody (topS 71)) (defScope (topS 71)) .none kV doc pm an cdv ct) ⟨us, []⟩ = pure ((["_law_bag_here", "_law_many", "_law_most"] : List Str).zip us) :=
  match us, hl with | [_, _, _], _ => rfl
theorem bd_law_exchanged (kV doc pm : Value) (an : Option Addr) (cdv ct : Value) (us : List Value) (hl : us.length = (["_law_fleet_here", "_law_plan_here", "_law_lease"] : List Str).length) : bindArgs (PySem.W.fnOf "_law_exchanged" "_law_exchanged" (defArgs (topS 72)) (defBody (topS 72)) (defScope (topS 72)) .none kV doc pm an cdv ct) ⟨us, []⟩ = pure ((["_law_fleet_here", "_law_plan_here", "_law_lease"] : List Str).zip us) :=
  match us, hl with | [_, _, _], _ => rfl
theorem bd_law_heard (kV doc pm : Value) (an : Option Addr) (cdv ct : Value) (us : List Value) (hl : us.length = (["_law_act"] : List Str).length) : bindArgs (PySem.W.fnOf "_law_heard" "_law_heard" (defArgs (topS 73)) (defBody (topS 73)) (defScope (topS 73)) .none kV doc pm an cdv ct) ⟨us, []⟩ = pure ((["_law_act"] : List Str).zip us) :=
  match us, hl with | [_], _ => rfl
structure Tops (K : PySem.W.Frag) (mg : Str → Option Value) : Prop where
  fis_integer : FunAt K mg "is_integer" 8 ["thing"]
  fis_name : FunAt K mg "is_name" 9 ["thing"]
  fis_service : FunAt K mg "is_service" 10 ["fleet", "thing"]
  fis_lease : FunAt K mg "is_lease" 11 ["fleet", "thing"]
  fsize : FunAt K mg "size" 13 ["fleet"]
  frestarts_of : FunAt K mg "restarts_of" 14 ["fleet", "service"]
  fleases_of : FunAt K mg "leases_of" 15 ["fleet"]
  flease_in : FunAt K mg "lease_in" 16 ["fleet", "service", "stretch"]
  fend_of : FunAt K mg "end_of" 17 ["fleet", "lease"]
  freduced : FunAt K mg "reduced" 19 ["word"]
  fjoined : FunAt K mg "joined" 20 ["first", "second"]
  fcommon_length : FunAt K mg "common_length" 21 ["one", "other"]
  fway : FunAt K mg "way" 22 ["one", "other"]
  fvertices_of : FunAt K mg "vertices_of" 24 ["fleet", "plan"]
  fedges_with : FunAt K mg "edges_with" 26 ["edges", "service"]
  faparts : FunAt K mg "aparts" 27 ["fleet", "one", "other"]
  fcan_be_edited : FunAt K mg "can_be_edited" 29 ["fleet", "plan", "pins", "lease"]
  fedits_of : FunAt K mg "edits_of" 30 ["fleet", "plan", "pins"]
  fturned_hops : FunAt K mg "turned_hops" 31 ["fleet", "lease"]
  fedited : FunAt K mg "edited" 32 ["fleet", "plan", "pins", "lease"]
  fdifferences : FunAt K mg "differences" 34 ["fleet", "one", "other"]
  frows_of : FunAt K mg "rows_of" 36 ["fleet", "one", "other"]
  fsteps_ahead : FunAt K mg "steps_ahead" 37 ["fleet", "one", "other"]
  fturned_about : FunAt K mg "turned_about" 38 ["ahead"]
  fin_order : FunAt K mg "in_order" 39 ["ahead"]
  fbarring : FunAt K mg "barring" 42 ["fleet", "pins", "one", "other"]
  fleads : FunAt K mg "leads" 43 ["fleet", "pins", "one", "other"]
  fcheck_leads : FunAt K mg "check_leads" 44 ["fleet", "pins", "one", "other"]
  fscript_to : FunAt K mg "script_to" 45 ["fleet", "pins", "one", "other"]
  fedits_from : FunAt K mg "edits_from" 46 ["fleet", "pins", "plan"]
  fclass_of : FunAt K mg "class_of" 47 ["fleet", "pins", "plan"]
  ffewest_edits : FunAt K mg "fewest_edits" 48 ["fleet", "pins", "one", "other"]
  f_law_bag : FunAt K mg "_law_bag" 50 ["_law_script"]
  f_law_take : FunAt K mg "_law_take" 51 ["_law_bag_here", "_law_many"]
  f_law_some : FunAt K mg "_law_some" 52 ["_law_bag_here", "_law_things"]
  f_law_mixed : FunAt K mg "_law_mixed" 53 ["_law_bag_here", "_law_things"]
  f_law_alike : FunAt K mg "_law_alike" 54 ["_law_found", "_law_due"]
  f_law_names : FunAt K mg "_law_names" 55 ["_law_bag_here", "_law_many"]
  f_law_fleet : FunAt K mg "_law_fleet" 56 ["_law_bag_here", "_law_many", "_law_most"]
  f_law_plan : FunAt K mg "_law_plan" 57 ["_law_bag_here", "_law_fleet_here"]
  f_law_end : FunAt K mg "_law_end" 58 ["_law_fleet_here", "_law_lease"]
  f_law_leases : FunAt K mg "_law_leases" 59 ["_law_fleet_here"]
  f_law_pins : FunAt K mg "_law_pins" 60 ["_law_bag_here", "_law_fleet_here"]
  f_law_stands : FunAt K mg "_law_stands" 61 ["_law_fleet_here", "_law_plan_here"]
  f_law_reduced : FunAt K mg "_law_reduced" 62 ["_law_word"]
  f_law_vertex : FunAt K mg "_law_vertex" 63 ["_law_fleet_here", "_law_plan_here", "_law_stretch"]
  f_law_way : FunAt K mg "_law_way" 64 ["_law_one", "_law_other"]
  f_law_apart : FunAt K mg "_law_apart" 65 ["_law_fleet_here", "_law_one", "_law_other", "_law_lease"]
  f_law_near : FunAt K mg "_law_near" 66 ["_law_fleet_here", "_law_plan_here", "_law_pins_here"]
  f_law_depths : FunAt K mg "_law_depths" 67 ["_law_fleet_here", "_law_plan_here", "_law_pins_here"]
  f_law_all_plans : FunAt K mg "_law_all_plans" 68 ["_law_fleet_here"]
  f_law_led : FunAt K mg "_law_led" 69 ["_law_fleet_here", "_law_pins_here", "_law_plan_here", "_law_script"]
  f_law_tiny : FunAt K mg "_law_tiny" 70 ["_law_bag_here"]
  f_law_cut_fleet : FunAt K mg "_law_cut_fleet" 71 ["_law_bag_here", "_law_many", "_law_most"]
  f_law_exchanged : FunAt K mg "_law_exchanged" 72 ["_law_fleet_here", "_law_plan_here", "_law_lease"]
  f_law_heard : FunAt K mg "_law_heard" 73 ["_law_act"]
/-- the same, K told by what stands there -/
abbrev FunAtX {K : PySem.W.Frag} {h : Heap} (_ : K.In h) (mg : Str → Option Value) (x : Str) (i : Nat) (ps : List Str) : Prop := FunAt K mg x i ps
abbrev TopsX {K : PySem.W.Frag} {h : Heap} (_ : K.In h) (mg : Str → Option Value) : Prop := Tops K mg
theorem blt_at {K : PySem.W.Frag} {h : Heap} {mg : Str → Option Value} {tL tM : Tok} (X : K.In h) (G : h.Ns mainGlobals mg) (nlen : mg "len" = none) (nrange : mg "range" = none) (ntuple : mg "tuple" = none) (nlist : mg "list" = none) (nint : mg "int" = none) (nbool : mg "bool" = none) (nstr : mg "str" = none) (nabs : mg "abs" = none) (nmin : mg "min" = none) (nsorted : mg "sorted" = none) (nisinstance : mg "isinstance" = none) (nenumerate : mg "enumerate" = none) (nzip : mg "zip" = none) (nrepr : mg "repr" = none) (ndict : mg "dict" = none) (aL : PySem.W.nsIn K mainGlobals "LETTERS" = some (some (.str "abcdefghijklmnopqrstuvwxyz" tL))) (aM : PySem.W.nsIn K mainGlobals "MOST" = some (some (.int 2000 tM))) : Blt mg :=
  ⟨nlen, nrange, ntuple, nlist, nint, nbool, nstr, nabs, nmin, nsorted, nisinstance, nenumerate, nzip, nrepr, ndict, ⟨tL, PySem.W.mg_of X G aL⟩, ⟨tM, PySem.W.mg_of X G aM⟩⟩
section
variable {P : Program} {w : World} {K : PySem.W.Frag} {mg : Str → Option Value} {base : Heap}
theorem all_cal {C fI : Addr} {fdI : FuncData} (A : Tops K mg) (M : Blt mg) (T : SupC P K mg C fI) (SF : SupF P K C fI fdI) (gC : mg "NoWay" = some (.ref C)) : SH.Calls P w K mg base 9 ∧ CalX P w K mg base 7 "script_to" 4 C Fscript_to Gscript_to := by
  have Cis_integer : Cal P w K mg base 1 "is_integer" 1 Fis_integer := by
    obtain ⟨f, fd, g, F, b⟩ := A.fis_integer.ex
    exact okis_integer (k := 0) F g b M
  have Cis_name : Cal P w K mg base 1 "is_name" 1 Fis_name := by
    obtain ⟨f, fd, g, F, b⟩ := A.fis_name.ex
    exact okis_name (k := 0) F g b M
  have Csize : Cal P w K mg base 1 "size" 1 Fsize := by
    obtain ⟨f, fd, g, F, b⟩ := A.fsize.ex
    exact oksize (k := 0) F g b M
  have Crestarts_of : Cal P w K mg base 1 "restarts_of" 2 Frestarts_of := by
    obtain ⟨f, fd, g, F, b⟩ := A.frestarts_of.ex
    exact okrestarts_of (k := 0) F g b M
  have Cleases_of : Cal P w K mg base 1 "leases_of" 1 Fleases_of := by
    obtain ⟨f, fd, g, F, b⟩ := A.fleases_of.ex
    exact okleases_of (k := 0) F g b M
  have Creduced : Cal P w K mg base 1 "reduced" 1 Freduced := by
    obtain ⟨f, fd, g, F, b⟩ := A.freduced.ex
    exact okreduced (k := 0) F g b M
  have Ccommon_length : Cal P w K mg base 1 "common_length" 2 Fcommon_length := by
    obtain ⟨f, fd, g, F, b⟩ := A.fcommon_length.ex
    exact okcommon_length (k := 0) F g b M
  have Cedges_with : Cal P w K mg base 1 "edges_with" 2 Fedges_with := by
    obtain ⟨f, fd, g, F, b⟩ := A.fedges_with.ex
    exact okedges_with (k := 0) F g b M
  have Cturned_about : Cal P w K mg base 1 "turned_about" 1 Fturned_about := by
    obtain ⟨f, fd, g, F, b⟩ := A.fturned_about.ex
    exact okturned_about (k := 0) F g b M
  have C_law_bag : CalN P w K mg base 1 "_law_bag" 1 F_law_bag := by
    obtain ⟨f, fd, g, F, b⟩ := A.f_law_bag.ex
    exact ok_law_bag (k := 0) F g b M
  have C_law_take : CalB P w K mg base 1 "_law_take" 2 F_law_take := by
    obtain ⟨f, fd, g, F, b⟩ := A.f_law_take.ex
    exact ok_law_take (k := 0) F g b M
  have C_law_alike : Cal P w K mg base 1 "_law_alike" 2 F_law_alike := by
    obtain ⟨f, fd, g, F, b⟩ := A.f_law_alike.ex
    exact ok_law_alike (k := 0) F g b M
  have C_law_end : Cal P w K mg base 1 "_law_end" 2 F_law_end := by
    obtain ⟨f, fd, g, F, b⟩ := A.f_law_end.ex
    exact ok_law_end (k := 0) F g b M
  have C_law_leases : Cal P w K mg base 1 "_law_leases" 1 F_law_leases := by
    obtain ⟨f, fd, g, F, b⟩ := A.f_law_leases.ex
    exact ok_law_leases (k := 0) F g b M
  have C_law_stands : CalT P w K mg base 1 "_law_stands" 2 F_law_stands := by
    obtain ⟨f, fd, g, F, b⟩ := A.f_law_stands.ex
    exact ok_law_stands (k := 0) F g b M
  have C_law_reduced : Cal P w K mg base 1 "_law_reduced" 1 F_law_reduced := by
    obtain ⟨f, fd, g, F, b⟩ := A.f_law_reduced.ex
    exact ok_law_reduced (k := 0) F g b M
  have C_law_way : Cal P w K mg base 1 "_law_way" 2 F_law_way := by
    obtain ⟨f, fd, g, F, b⟩ := A.f_law_way.ex
    exact ok_law_way (k := 0) F g b M
  have C_law_all_plans : Cal P w K mg base 1 "_law_all_plans" 1 F_law_all_plans := by
    obtain ⟨f, fd, g, F, b⟩ := A.f_law_all_plans.ex
    exact ok_law_all_plans (k := 0) F g b M
  have Cis_service : Cal P w K mg base 2 "is_service" 2 Fis_service := by
    obtain ⟨f, fd, g, F, b⟩ := A.fis_service.ex
    exact okis_service (k := 1) F g b M (Cis_name.mono (by decide))
  have Clease_in : Cal P w K mg base 2 "lease_in" 3 Flease_in := by
    obtain ⟨f, fd, g, F, b⟩ := A.flease_in.ex
    exact oklease_in (k := 1) F g b M (Crestarts_of.mono (by decide))
  have Cjoined : Cal P w K mg base 2 "joined" 2 Fjoined := by
    obtain ⟨f, fd, g, F, b⟩ := A.fjoined.ex
    exact okjoined (k := 1) F g b M (Creduced.mono (by decide))
  have Cway : Cal P w K mg base 2 "way" 2 Fway := by
    obtain ⟨f, fd, g, F, b⟩ := A.fway.ex
    exact okway (k := 1) F g b M (Ccommon_length.mono (by decide))
  have Cin_order : Cal P w K mg base 2 "in_order" 1 Fin_order := by
    obtain ⟨f, fd, g, F, b⟩ := A.fin_order.ex
    exact okin_order (k := 1) F g b M (Cturned_about.mono (by decide))
  have C_law_some : CalB P w K mg base 2 "_law_some" 2 F_law_some := by
    obtain ⟨f, fd, g, F, b⟩ := A.f_law_some.ex
    exact ok_law_some (k := 1) F g b M (C_law_take.mono (by decide))
  have C_law_mixed : CalB P w K mg base 2 "_law_mixed" 2 F_law_mixed := by
    obtain ⟨f, fd, g, F, b⟩ := A.f_law_mixed.ex
    exact ok_law_mixed (k := 1) F g b M (C_law_take.mono (by decide))
  have C_law_vertex : Cal P w K mg base 2 "_law_vertex" 3 F_law_vertex := by
    obtain ⟨f, fd, g, F, b⟩ := A.f_law_vertex.ex
    exact ok_law_vertex (k := 1) F g b M (C_law_reduced.mono (by decide))
  have C_law_exchanged : Cal P w K mg base 2 "_law_exchanged" 3 F_law_exchanged := by
    obtain ⟨f, fd, g, F, b⟩ := A.f_law_exchanged.ex
    exact ok_law_exchanged (k := 1) F g b M (C_law_end.mono (by decide))
  have Cis_lease : Cal P w K mg base 3 "is_lease" 2 Fis_lease := by
    obtain ⟨f, fd, g, F, b⟩ := A.fis_lease.ex
    exact okis_lease (k := 2) F g b M (Cis_integer.mono (by decide)) (Cis_service.mono (by decide))
  have Cvertices_of : Cal P w K mg base 3 "vertices_of" 2 Fvertices_of := by
    obtain ⟨f, fd, g, F, b⟩ := A.fvertices_of.ex
    exact okvertices_of (k := 2) F g b M (Cjoined.mono (by decide))
  have C_law_names : CalB P w K mg base 3 "_law_names" 2 F_law_names := by
    obtain ⟨f, fd, g, F, b⟩ := A.f_law_names.ex
    exact ok_law_names (k := 2) F g b M (C_law_mixed.mono (by decide)) (C_law_some.mono (by decide)) (C_law_take.mono (by decide))
  have C_law_plan : CalB P w K mg base 3 "_law_plan" 2 F_law_plan := by
    obtain ⟨f, fd, g, F, b⟩ := A.f_law_plan.ex
    exact ok_law_plan (k := 2) F g b M (C_law_some.mono (by decide)) (C_law_take.mono (by decide))
  have C_law_pins : CalB P w K mg base 3 "_law_pins" 2 F_law_pins := by
    obtain ⟨f, fd, g, F, b⟩ := A.f_law_pins.ex
    exact ok_law_pins (k := 2) F g b M (C_law_leases.mono (by decide)) (C_law_some.mono (by decide)) (C_law_take.mono (by decide))
  have C_law_apart : Cal P w K mg base 3 "_law_apart" 4 F_law_apart := by
    obtain ⟨f, fd, g, F, b⟩ := A.f_law_apart.ex
    exact ok_law_apart (k := 2) F g b M (C_law_vertex.mono (by decide)) (C_law_way.mono (by decide))
  have C_law_near : Cal P w K mg base 3 "_law_near" 3 F_law_near := by
    obtain ⟨f, fd, g, F, b⟩ := A.f_law_near.ex
    exact ok_law_near (k := 2) F g b M (C_law_end.mono (by decide)) (C_law_exchanged.mono (by decide)) (C_law_leases.mono (by decide)) (C_law_stands.mono (by decide))
  have C_law_led : Cal P w K mg base 3 "_law_led" 4 F_law_led := by
    obtain ⟨f, fd, g, F, b⟩ := A.f_law_led.ex
    exact ok_law_led (k := 2) F g b M (C_law_end.mono (by decide)) (C_law_exchanged.mono (by decide)) (C_law_leases.mono (by decide)) (C_law_stands.mono (by decide))
  have Cend_of : Cal P w K mg base 4 "end_of" 2 Fend_of := by
    obtain ⟨f, fd, g, F, b⟩ := A.fend_of.ex
    exact okend_of (k := 3) F g b M (Cis_lease.mono (by decide)) (Crestarts_of.mono (by decide)) (Csize.mono (by decide))
  have Caparts : Cal P w K mg base 4 "aparts" 3 Faparts := by
    obtain ⟨f, fd, g, F, b⟩ := A.faparts.ex
    exact okaparts (k := 3) F g b M (Cedges_with.mono (by decide)) (Cleases_of.mono (by decide)) (Cvertices_of.mono (by decide)) (Cway.mono (by decide))
  have Cdifferences : Cal P w K mg base 4 "differences" 3 Fdifferences := by
    obtain ⟨f, fd, g, F, b⟩ := A.fdifferences.ex
    exact okdifferences (k := 3) F g b M (Cedges_with.mono (by decide)) (Cleases_of.mono (by decide)) (Cvertices_of.mono (by decide)) (Cway.mono (by decide))
  have Crows_of : Cal P w K mg base 4 "rows_of" 3 Frows_of := by
    obtain ⟨f, fd, g, F, b⟩ := A.frows_of.ex
    exact okrows_of (k := 3) F g b M (Clease_in.mono (by decide)) (Csize.mono (by decide)) (Cvertices_of.mono (by decide)) (Cway.mono (by decide))
  have C_law_fleet : CalB P w K mg base 4 "_law_fleet" 3 F_law_fleet := by
    obtain ⟨f, fd, g, F, b⟩ := A.f_law_fleet.ex
    exact ok_law_fleet (k := 3) F g b M (C_law_mixed.mono (by decide)) (C_law_names.mono (by decide)) (C_law_some.mono (by decide)) (C_law_take.mono (by decide))
  have C_law_depths : Cal P w K mg base 4 "_law_depths" 3 F_law_depths := by
    obtain ⟨f, fd, g, F, b⟩ := A.f_law_depths.ex
    exact ok_law_depths (k := 3) F g b M (C_law_near.mono (by decide))
  have Ccan_be_edited : Cal P w K mg base 5 "can_be_edited" 4 Fcan_be_edited := by
    obtain ⟨f, fd, g, F, b⟩ := A.fcan_be_edited.ex
    exact okcan_be_edited (k := 4) F g b M (Cend_of.mono (by decide)) (Cis_lease.mono (by decide))
  have Cturned_hops : Cal P w K mg base 5 "turned_hops" 2 Fturned_hops := by
    obtain ⟨f, fd, g, F, b⟩ := A.fturned_hops.ex
    exact okturned_hops (k := 4) F g b M (Cend_of.mono (by decide)) (Csize.mono (by decide))
  have Csteps_ahead : Cal P w K mg base 5 "steps_ahead" 3 Fsteps_ahead := by
    obtain ⟨f, fd, g, F, b⟩ := A.fsteps_ahead.ex
    exact oksteps_ahead (k := 4) F g b M (Cdifferences.mono (by decide)) (Crows_of.mono (by decide))
  have Cbarring : Cal P w K mg base 5 "barring" 4 Fbarring := by
    obtain ⟨f, fd, g, F, b⟩ := A.fbarring.ex
    exact okbarring (k := 4) F g b M (Caparts.mono (by decide))
  have C_law_cut_fleet : CalB P w K mg base 5 "_law_cut_fleet" 3 F_law_cut_fleet := by
    obtain ⟨f, fd, g, F, b⟩ := A.f_law_cut_fleet.ex
    exact ok_law_cut_fleet (k := 4) F g b M (C_law_fleet.mono (by decide))
  have Cedits_of : Cal P w K mg base 6 "edits_of" 3 Fedits_of := by
    obtain ⟨f, fd, g, F, b⟩ := A.fedits_of.ex
    exact okedits_of (k := 5) F g b M (Ccan_be_edited.mono (by decide)) (Cleases_of.mono (by decide))
  have Cedited : Cal P w K mg base 6 "edited" 4 Fedited := by
    obtain ⟨f, fd, g, F, b⟩ := A.fedited.ex
    exact okedited (k := 5) F g b M (Ccan_be_edited.mono (by decide)) (Cturned_hops.mono (by decide))
  have Cleads : Cal P w K mg base 6 "leads" 4 Fleads := by
    obtain ⟨f, fd, g, F, b⟩ := A.fleads.ex
    exact okleads (k := 5) F g b M (Cbarring.mono (by decide))
  have Ccheck_leads : CalX P w K mg base 6 "check_leads" 4 C Fcheck_leads Gcheck_leads := by
    obtain ⟨f, fd, g, F, b⟩ := A.fcheck_leads.ex
    exact okcheck_leads (k := 5) F g b M (by decide) T SF gC (Cbarring.mono (by decide))
  have C_law_tiny : CalB P w K mg base 6 "_law_tiny" 1 F_law_tiny := by
    obtain ⟨f, fd, g, F, b⟩ := A.f_law_tiny.ex
    exact ok_law_tiny (k := 5) F g b M (C_law_cut_fleet.mono (by decide)) (C_law_some.mono (by decide))
  have Cscript_to : CalX P w K mg base 7 "script_to" 4 C Fscript_to Gscript_to := by
    obtain ⟨f, fd, g, F, b⟩ := A.fscript_to.ex
    exact okscript_to (k := 6) F g b M (Ccheck_leads.mono (by decide)) (Csteps_ahead.mono (by decide)) (Cin_order.mono (by decide))
  have Cedits_from : Cal P w K mg base 7 "edits_from" 3 Fedits_from := by
    obtain ⟨f, fd, g, F, b⟩ := A.fedits_from.ex
    exact okedits_from (k := 6) F g b M (Cedited.mono (by decide)) (Cedits_of.mono (by decide))
  have Cclass_of : Cal P w K mg base 8 "class_of" 3 Fclass_of := by
    obtain ⟨f, fd, g, F, b⟩ := A.fclass_of.ex
    exact okclass_of (k := 7) F g b M (Cedits_from.mono (by decide))
  have Cfewest_edits : Cal P w K mg base 8 "fewest_edits" 4 Ffewest_edits := by
    obtain ⟨f, fd, g, F, b⟩ := A.ffewest_edits.ex
    exact okfewest_edits (k := 7) F g b M (Cedits_from.mono (by decide))
  exact ⟨{ bag := C_law_bag.mono (by decide), tiny := C_law_tiny.mono (by decide), pins := C_law_pins.mono (by decide), plan := C_law_plan.mono (by decide), mixed := C_law_mixed.mono (by decide), depths := C_law_depths.mono (by decide), alike := C_law_alike.mono (by decide), all_plans := C_law_all_plans.mono (by decide), apart := C_law_apart.mono (by decide), led := C_law_led.mono (by decide), class_of := Cclass_of.mono (by decide), barring := Cbarring.mono (by decide), leads := Cleads.mono (by decide), fewest := Cfewest_edits.mono (by decide) }, Cscript_to.mono (by decide)⟩
theorem law_at {w : World} {h : Heap} {fa f C fI c Pt : Addr} {fdI : FuncData} {oc kV doc pm ct : Value} {od an : Option Addr} {osl : Array (Option Value)} (X : K.In h) (G : h.Ns mainGlobals mg) (hfa : mg "law" = some (.ref fa)) (A : Tops K mg) (M : Blt mg)
    (T : SupC PySem.Challenge.rw_sparehop_k26_whole_main_reached_exactly.prog K mg C fI) (SF : SupF PySem.Challenge.rw_sparehop_k26_whole_main_reached_exactly.prog K C fI fdI) (gC : mg "NoWay" = some (.ref C)) (al : PySem.W.nsIn K mainGlobals "law" = some (some (.ref f)))
    (lk : K.lookup f = some ⟨oc, od, .func (PySem.W.fnOf "law" "law" (defArgs (topS 74)) (defBody (topS 74)) (defScope (topS 74)) .none kV doc pm an (.ref c) ct), osl⟩) (hcd : PySem.W.codeIn K (.ref c) "law" = true)
    (hd : PySem.W.codeHdIn K c Pt = true) (nP : K.lookup Pt = none) (nl : (K.all fun p => decide (p.2.cls ≠ .type "list")) = true) (hT : h.get? Pt = some { cls := .none, data := .fields #[] }) :
    LawG PySem.Challenge.rw_sparehop_k26_whole_main_reached_exactly w K C8.CX0 10 63 "_law_script" mg fa h := by
  have e := hfa.symm.trans (PySem.W.mg_of X G al)
  cases e
  obtain ⟨g, fdH, gH, FH, bH⟩ := A.f_law_heard.ex
  refine ⟨PySem.W.fnOf "law" "law" (defArgs (topS 74)) (defBody (topS 74)) (defScope (topS 74)) .none kV doc pm an (.ref c) ct, c, Pt, spLaw Pt, hT, nP, PySem.W.codeHd_of_K X hd, nl, fun s u => .of_eq rfl, fun H a o ns hl h1 h2 => ⟨a, o, ns, rfl, h2, hl, h1, fun _ => rfl⟩, fun base hK hN TB => ?_⟩
  obtain ⟨CC, CX⟩ := all_cal (P := PySem.Challenge.rw_sparehop_k26_whole_main_reached_exactly.prog) (w := w) (base := base) A M T SF gC
  exact oklaw lk hcd M T gC FH gH bH TB CC CX
theorem exm_self {K : PySem.W.Frag} {S : Addr} (h1 : PySem.W.subIn K (.ref S) (.type "BaseException") = some true) (h2 : PySem.W.isClsIn K S = true) (h3 : PySem.W.typeIn K (.ref S) = some (.type "type")) (h4 : PySem.W.subIn K (.ref S) (.ref S) = some true) : PySem.W.exmOne K (.ref S) (.ref S) = some true := by
  have e1 : (PySem.W.subIn K (.ref S) (.type "BaseException") == some true) = true := by rw [h1] <;> rfl
  have e2 : ((PySem.W.clsIn K S).isSome && PySem.W.typeIn K (.ref S) == some (.type "type")) = true := by
    have h2p : (PySem.W.clsIn K S).isSome = true := h2
    rw [h2p, h3] <;> rfl
  show (if (PySem.W.subIn K (.ref S) (.type "BaseException") == some true) = true then (if ((PySem.W.clsIn K S).isSome && PySem.W.typeIn K (.ref S) == some (.type "type")) = true then PySem.W.subIn K (.ref S) (.ref S) else none) else none) = some true
  rw [if_pos e1, if_pos e2]
  exact h4
theorem law_at_facts {w : World} {h : Heap} {fa f C f1 cda cc D c Pt : Addr} (X : K.In h) (G : h.Ns mainGlobals mg) (hfa : mg "law" = some (.ref fa)) (A : Tops K mg) (M : Blt mg)
    {nm q : Str} {N : Addr} {bs bm : List Value} {sn : List Str} {sub : List Value} {ab : Bool} {col : Option Bool} {dd : Option Addr} {m0 m1 m2 m3 m5 : Option Value}
    {od od1 an an1 cdd cdd3 cld : Option Addr} {osl sl1 ccs ccs3 csl : Array (Option Value)} {oc oc1 kV doc pm ct dc1 pm1 kV1 ct1 ccl ccl3 cl : Value} {vs vs3 : Array Value} {file : Str} {tf : Tok}
    (aC : PySem.W.nsIn K mainGlobals "NoWay" = some (some (.ref C)))
    (xL : K.lookup C = some (excClassObj nm q C N bs bm true sn sub ab col dd m0 m1 m2 m3 m5 "ValueError.__new__")) (xB : PySem.HandSPX.refsVE bm = true)
    (sa : PySem.W.findIn K (.ref C) "__setattr__" = some (some (.builtin "object.__setattr__"))) (ga : PySem.W.findIn K (.ref C) "__getattribute__" = some (some (.builtin "BaseException.__getattribute__"))) (gg : PySem.W.findIn K (.ref C) "__getattr__" = some none) (nb : PySem.W.findIn K (.ref C) "lease" = some none)
    (a1 : PySem.W.findIn K (.ref C) "__init__" = some (some (.ref f1))) (t1 : PySem.W.typeIn K (.ref f1) = some (.type "function"))
    (l1 : K.lookup f1 = some ⟨oc1, od1, .func (PySem.W.ksFn "__init__" "NoWay.__init__" supArgs supBody supScope .none kV1 dc1 pm1 an1 (.ref cda) ct1 cc), sl1⟩) (c1 : PySem.W.codeIn K (.ref cda) "NoWay.__init__" = true)
    (lc : K.lookup cda = some ⟨ccl, cdd, .fields vs, ccs⟩) (lv : vs[2]? = some (.str file tf)) (lf : ((PySem.Challenge.rw_sparehop_k26_whole_main_reached_exactly.prog.main.file : Str) == file) = true)
    (lcc : K.lookup cc = some ⟨cl, cld, .cell (some (.ref D)), csl⟩) (hD : D = C) (su : PySem.W.ks_superIn K C C "__init__" = some (some (.builtin "ValueError.__init__")))
    (kC : PySem.W.keepIn K (.ref C) = true) (eC : PySem.W.subIn K (.ref C) (.type "BaseException") = some true) (vC : PySem.W.subIn K (.ref C) (.type "ValueError") = some true) (tC : PySem.W.typeIn K (.ref C) = some (.type "type")) (hC : PySem.W.hasDictIn K C = true) (iC : PySem.W.isClsIn K C = true) (sC : PySem.W.subIn K (.ref C) (.ref C) = some true) (mC : PySem.W.mroIn K C (.ref C) = some true)
    (op : PySem.W.nsIn K PySem.cStatics "thirdparty.any" = some none) (zs : PySem.W.nsIn K mainGlobals "super" = some none)
    (al : PySem.W.nsIn K mainGlobals "law" = some (some (.ref f)))
    (lk : K.lookup f = some ⟨oc, od, .func (PySem.W.fnOf "law" "law" (defArgs (topS 74)) (defBody (topS 74)) (defScope (topS 74)) .none kV doc pm an (.ref c) ct), osl⟩) (hcd : PySem.W.codeIn K (.ref c) "law" = true)
    (lc3 : K.lookup c = some ⟨ccl3, cdd3, .fields vs3, ccs3⟩) (lP : vs3[11]? = some (.ref Pt)) (hd : PySem.W.codeHdIn K c Pt = true) (nP : K.lookup Pt = none) (nl : (K.all fun p => decide (p.2.cls ≠ .type "list")) = true) (hT : h.get? Pt = some { cls := .none, data := .fields #[] }) :
    LawG PySem.Challenge.rw_sparehop_k26_whole_main_reached_exactly w K C8.CX0 10 63 "_law_script" mg fa h := by
  subst hD
  have gC := PySem.W.mg_of X G aC
  have T : SupC PySem.Challenge.rw_sparehop_k26_whole_main_reached_exactly.prog K mg D f1 :=
    { ox := ⟨⟨nm, q, N, bs, _, sn, sub, ab, col, dd, m0, m1, m2, m3, m5, xL, xB⟩, sa, eC, tC, kC⟩, xf := ⟨ga, gg, eC, hC⟩, noF := nb, te := exm_self eC iC tC sC, iC := a1, tI := t1, isV := vC, mC := mC, su := su, op := op, ns := PySem.W.mg_none_of X G zs, top := by decide +kernel }
  have SF : SupF PySem.Challenge.rw_sparehop_k26_whole_main_reached_exactly.prog K D f1 _ := ⟨_, _, _, _, _, _, _, _, _, _, _, _, _, _, _, _, vs, file, tf, rfl, l1, c1, lc, lv, lf, lcc⟩
  exact law_at X G hfa A M T SF gC al lk hcd hd nP nl hT
end
end SH
end JF
section JG
set_option Elab.async false
set_option linter.all false
set_option maxRecDepth 100000
open PySem PySem.W PyProof.Rows
set_option maxHeartbeats 0 in
theorem PySem.Challenge.cw_sparehop_k26_whole_main_reached_exactly_holds : PySem.Challenge.rw_sparehop_k26_whole_main_reached_exactly.Holds := by
  w_on; o_law; k_head; (case hw => w_witness2)
  k_fill
  refine DL.walk_ofG (l := PySem.Challenge.rw_sparehop_k26_whole_main_reached_exactly) (n := 63) (k := 10) (x := "_law_script") (CX := fun _ => C8.CX0) rfl (by decide) rfl ⟨⟨rfl, by decide, by decide⟩, rfl⟩ (fun w h Y => PySem.W.km_in_of Y) ?F (fun _ _ _ _ _ z => z)
  case F =>
    intro w mg fa h Y KX G hmg
    have Fis_integer : SH.FunAtX KX mg "is_integer" 8 ["thing"] := by
      refine' SH.fun_at KX G ?a ?l ?c ?k SH.bdis_integer
      (case a => k_is); (case l => k_is); (case c => k_is); (case k => k_is)
    have Fis_name : SH.FunAtX KX mg "is_name" 9 ["thing"] := by
      refine' SH.fun_at KX G ?a ?l ?c ?k SH.bdis_name
      (case a => k_is); (case l => k_is); (case c => k_is); (case k => k_is)
    have Fis_service : SH.FunAtX KX mg "is_service" 10 ["fleet", "thing"] := by
      refine' SH.fun_at KX G ?a ?l ?c ?k SH.bdis_service
      (case a => k_is); (case l => k_is); (case c => k_is); (case k => k_is)
    have Fis_lease : SH.FunAtX KX mg "is_lease" 11 ["fleet", "thing"] := by
      refine' SH.fun_at KX G ?a ?l ?c ?k SH.bdis_lease
      (case a => k_is); (case l => k_is); (case c => k_is); (case k => k_is)
    have Fsize : SH.FunAtX KX mg "size" 13 ["fleet"] := by
      refine' SH.fun_at KX G ?a ?l ?c ?k SH.bdsize
      (case a => k_is); (case l => k_is); (case c => k_is); (case k => k_is)
    have Frestarts_of : SH.FunAtX KX mg "restarts_of" 14 ["fleet", "service"] := by
      refine' SH.fun_at KX G ?a ?l ?c ?k SH.bdrestarts_of
      (case a => k_is); (case l => k_is); (case c => k_is); (case k => k_is)
    have Fleases_of : SH.FunAtX KX mg "leases_of" 15 ["fleet"] := by
      refine' SH.fun_at KX G ?a ?l ?c ?k SH.bdleases_of
      (case a => k_is); (case l => k_is); (case c => k_is); (case k => k_is)
    have Flease_in : SH.FunAtX KX mg "lease_in" 16 ["fleet", "service", "stretch"] := by
      refine' SH.fun_at KX G ?a ?l ?c ?k SH.bdlease_in
      (case a => k_is); (case l => k_is); (case c => k_is); (case k => k_is)
    have Fend_of : SH.FunAtX KX mg "end_of" 17 ["fleet", "lease"] := by
      refine' SH.fun_at KX G ?a ?l ?c ?k SH.bdend_of
      (case a => k_is); (case l => k_is); (case c => k_is); (case k => k_is)
    have Freduced : SH.FunAtX KX mg "reduced" 19 ["word"] := by
      refine' SH.fun_at KX G ?a ?l ?c ?k SH.bdreduced
      (case a => k_is); (case l => k_is); (case c => k_is); (case k => k_is)
    have Fjoined : SH.FunAtX KX mg "joined" 20 ["first", "second"] := by
      refine' SH.fun_at KX G ?a ?l ?c ?k SH.bdjoined
      (case a => k_is); (case l => k_is); (case c => k_is); (case k => k_is)
    have Fcommon_length : SH.FunAtX KX mg "common_length" 21 ["one", "other"] := by
      refine' SH.fun_at KX G ?a ?l ?c ?k SH.bdcommon_length
      (case a => k_is); (case l => k_is); (case c => k_is); (case k => k_is)
    have Fway : SH.FunAtX KX mg "way" 22 ["one", "other"] := by
      refine' SH.fun_at KX G ?a ?l ?c ?k SH.bdway
      (case a => k_is); (case l => k_is); (case c => k_is); (case k => k_is)
    have Fvertices_of : SH.FunAtX KX mg "vertices_of" 24 ["fleet", "plan"] := by
      refine' SH.fun_at KX G ?a ?l ?c ?k SH.bdvertices_of
      (case a => k_is); (case l => k_is); (case c => k_is); (case k => k_is)
    have Fedges_with : SH.FunAtX KX mg "edges_with" 26 ["edges", "service"] := by
      refine' SH.fun_at KX G ?a ?l ?c ?k SH.bdedges_with
      (case a => k_is); (case l => k_is); (case c => k_is); (case k => k_is)
    have Faparts : SH.FunAtX KX mg "aparts" 27 ["fleet", "one", "other"] := by
      refine' SH.fun_at KX G ?a ?l ?c ?k SH.bdaparts
      (case a => k_is); (case l => k_is); (case c => k_is); (case k => k_is)
    have Fcan_be_edited : SH.FunAtX KX mg "can_be_edited" 29 ["fleet", "plan", "pins", "lease"] := by
      refine' SH.fun_at KX G ?a ?l ?c ?k SH.bdcan_be_edited
      (case a => k_is); (case l => k_is); (case c => k_is); (case k => k_is)
    have Fedits_of : SH.FunAtX KX mg "edits_of" 30 ["fleet", "plan", "pins"] := by
      refine' SH.fun_at KX G ?a ?l ?c ?k SH.bdedits_of
      (case a => k_is); (case l => k_is); (case c => k_is); (case k => k_is)
    have Fturned_hops : SH.FunAtX KX mg "turned_hops" 31 ["fleet", "lease"] := by
      refine' SH.fun_at KX G ?a ?l ?c ?k SH.bdturned_hops
      (case a => k_is); (case l => k_is); (case c => k_is); (case k => k_is)
    have Fedited : SH.FunAtX KX mg "edited" 32 ["fleet", "plan", "pins", "lease"] := by
      refine' SH.fun_at KX G ?a ?l ?c ?k SH.bdedited
      (case a => k_is); (case l => k_is); (case c => k_is); (case k => k_is)
    have Fdifferences : SH.FunAtX KX mg "differences" 34 ["fleet", "one", "other"] := by
      refine' SH.fun_at KX G ?a ?l ?c ?k SH.bddifferences
      (case a => k_is); (case l => k_is); (case c => k_is); (case k => k_is)
    have Frows_of : SH.FunAtX KX mg "rows_of" 36 ["fleet", "one", "other"] := by
      refine' SH.fun_at KX G ?a ?l ?c ?k SH.bdrows_of
      (case a => k_is); (case l => k_is); (case c => k_is); (case k => k_is)
    have Fsteps_ahead : SH.FunAtX KX mg "steps_ahead" 37 ["fleet", "one", "other"] := by
      refine' SH.fun_at KX G ?a ?l ?c ?k SH.bdsteps_ahead
      (case a => k_is); (case l => k_is); (case c => k_is); (case k => k_is)
    have Fturned_about : SH.FunAtX KX mg "turned_about" 38 ["ahead"] := by
      refine' SH.fun_at KX G ?a ?l ?c ?k SH.bdturned_about
      (case a => k_is); (case l => k_is); (case c => k_is); (case k => k_is)
    have Fin_order : SH.FunAtX KX mg "in_order" 39 ["ahead"] := by
      refine' SH.fun_at KX G ?a ?l ?c ?k SH.bdin_order
      (case a => k_is); (case l => k_is); (case c => k_is); (case k => k_is)
    have Fbarring : SH.FunAtX KX mg "barring" 42 ["fleet", "pins", "one", "other"] := by
      refine' SH.fun_at KX G ?a ?l ?c ?k SH.bdbarring
      (case a => k_is); (case l => k_is); (case c => k_is); (case k => k_is)
    have Fleads : SH.FunAtX KX mg "leads" 43 ["fleet", "pins", "one", "other"] := by
      refine' SH.fun_at KX G ?a ?l ?c ?k SH.bdleads
      (case a => k_is); (case l => k_is); (case c => k_is); (case k => k_is)
    have Fcheck_leads : SH.FunAtX KX mg "check_leads" 44 ["fleet", "pins", "one", "other"] := by
      refine' SH.fun_at KX G ?a ?l ?c ?k SH.bdcheck_leads
      (case a => k_is); (case l => k_is); (case c => k_is); (case k => k_is)
    have Fscript_to : SH.FunAtX KX mg "script_to" 45 ["fleet", "pins", "one", "other"] := by
      refine' SH.fun_at KX G ?a ?l ?c ?k SH.bdscript_to
      (case a => k_is); (case l => k_is); (case c => k_is); (case k => k_is)
    have Fedits_from : SH.FunAtX KX mg "edits_from" 46 ["fleet", "pins", "plan"] := by
      refine' SH.fun_at KX G ?a ?l ?c ?k SH.bdedits_from
      (case a => k_is); (case l => k_is); (case c => k_is); (case k => k_is)
    have Fclass_of : SH.FunAtX KX mg "class_of" 47 ["fleet", "pins", "plan"] := by
      refine' SH.fun_at KX G ?a ?l ?c ?k SH.bdclass_of
      (case a => k_is); (case l => k_is); (case c => k_is); (case k => k_is)
    have Ffewest_edits : SH.FunAtX KX mg "fewest_edits" 48 ["fleet", "pins", "one", "other"] := by
      refine' SH.fun_at KX G ?a ?l ?c ?k SH.bdfewest_edits
      (case a => k_is); (case l => k_is); (case c => k_is); (case k => k_is)
    have F_law_bag : SH.FunAtX KX mg "_law_bag" 50 ["_law_script"] := by
      refine' SH.fun_at KX G ?a ?l ?c ?k SH.bd_law_bag
      (case a => k_is); (case l => k_is); (case c => k_is); (case k => k_is)
    have F_law_take : SH.FunAtX KX mg "_law_take" 51 ["_law_bag_here", "_law_many"] := by
      refine' SH.fun_at KX G ?a ?l ?c ?k SH.bd_law_take
      (case a => k_is); (case l => k_is); (case c => k_is); (case k => k_is)
    have F_law_some : SH.FunAtX KX mg "_law_some" 52 ["_law_bag_here", "_law_things"] := by
      refine' SH.fun_at KX G ?a ?l ?c ?k SH.bd_law_some
      (case a => k_is); (case l => k_is); (case c => k_is); (case k => k_is)
    have F_law_mixed : SH.FunAtX KX mg "_law_mixed" 53 ["_law_bag_here", "_law_things"] := by
      refine' SH.fun_at KX G ?a ?l ?c ?k SH.bd_law_mixed
      (case a => k_is); (case l => k_is); (case c => k_is); (case k => k_is)
    have F_law_alike : SH.FunAtX KX mg "_law_alike" 54 ["_law_found", "_law_due"] := by
      refine' SH.fun_at KX G ?a ?l ?c ?k SH.bd_law_alike
      (case a => k_is); (case l => k_is); (case c => k_is); (case k => k_is)
    have F_law_names : SH.FunAtX KX mg "_law_names" 55 ["_law_bag_here", "_law_many"] := by
      refine' SH.fun_at KX G ?a ?l ?c ?k SH.bd_law_names
      (case a => k_is); (case l => k_is); (case c => k_is); (case k => k_is)
    have F_law_fleet : SH.FunAtX KX mg "_law_fleet" 56 ["_law_bag_here", "_law_many", "_law_most"] := by
      refine' SH.fun_at KX G ?a ?l ?c ?k SH.bd_law_fleet
      (case a => k_is); (case l => k_is); (case c => k_is); (case k => k_is)
    have F_law_plan : SH.FunAtX KX mg "_law_plan" 57 ["_law_bag_here", "_law_fleet_here"] := by
      refine' SH.fun_at KX G ?a ?l ?c ?k SH.bd_law_plan
      (case a => k_is); (case l => k_is); (case c => k_is); (case k => k_is)
    have F_law_end : SH.FunAtX KX mg "_law_end" 58 ["_law_fleet_here", "_law_lease"] := by
      refine' SH.fun_at KX G ?a ?l ?c ?k SH.bd_law_end
      (case a => k_is); (case l => k_is); (case c => k_is); (case k => k_is)
    have F_law_leases : SH.FunAtX KX mg "_law_leases" 59 ["_law_fleet_here"] := by
      refine' SH.fun_at KX G ?a ?l ?c ?k SH.bd_law_leases
      (case a => k_is); (case l => k_is); (case c => k_is); (case k => k_is)
    have F_law_pins : SH.FunAtX KX mg "_law_pins" 60 ["_law_bag_here", "_law_fleet_here"] := by
      refine' SH.fun_at KX G ?a ?l ?c ?k SH.bd_law_pins
      (case a => k_is); (case l => k_is); (case c => k_is); (case k => k_is)
    have F_law_stands : SH.FunAtX KX mg "_law_stands" 61 ["_law_fleet_here", "_law_plan_here"] := by
      refine' SH.fun_at KX G ?a ?l ?c ?k SH.bd_law_stands
      (case a => k_is); (case l => k_is); (case c => k_is); (case k => k_is)
    have F_law_reduced : SH.FunAtX KX mg "_law_reduced" 62 ["_law_word"] := by
      refine' SH.fun_at KX G ?a ?l ?c ?k SH.bd_law_reduced
      (case a => k_is); (case l => k_is); (case c => k_is); (case k => k_is)
    have F_law_vertex : SH.FunAtX KX mg "_law_vertex" 63 ["_law_fleet_here", "_law_plan_here", "_law_stretch"] := by
      refine' SH.fun_at KX G ?a ?l ?c ?k SH.bd_law_vertex
      (case a => k_is); (case l => k_is); (case c => k_is); (case k => k_is)
    have F_law_way : SH.FunAtX KX mg "_law_way" 64 ["_law_one", "_law_other"] := by
      refine' SH.fun_at KX G ?a ?l ?c ?k SH.bd_law_way
      (case a => k_is); (case l => k_is); (case c => k_is); (case k => k_is)
    have F_law_apart : SH.FunAtX KX mg "_law_apart" 65 ["_law_fleet_here", "_law_one", "_law_other", "_law_lease"] := by
      refine' SH.fun_at KX G ?a ?l ?c ?k SH.bd_law_apart
      (case a => k_is); (case l => k_is); (case c => k_is); (case k => k_is)
    have F_law_near : SH.FunAtX KX mg "_law_near" 66 ["_law_fleet_here", "_law_plan_here", "_law_pins_here"] := by
      refine' SH.fun_at KX G ?a ?l ?c ?k SH.bd_law_near
      (case a => k_is); (case l => k_is); (case c => k_is); (case k => k_is)
    have F_law_depths : SH.FunAtX KX mg "_law_depths" 67 ["_law_fleet_here", "_law_plan_here", "_law_pins_here"] := by
      refine' SH.fun_at KX G ?a ?l ?c ?k SH.bd_law_depths
      (case a => k_is); (case l => k_is); (case c => k_is); (case k => k_is)
    have F_law_all_plans : SH.FunAtX KX mg "_law_all_plans" 68 ["_law_fleet_here"] := by
      refine' SH.fun_at KX G ?a ?l ?c ?k SH.bd_law_all_plans
      (case a => k_is); (case l => k_is); (case c => k_is); (case k => k_is)
    have F_law_led : SH.FunAtX KX mg "_law_led" 69 ["_law_fleet_here", "_law_pins_here", "_law_plan_here", "_law_script"] := by
      refine' SH.fun_at KX G ?a ?l ?c ?k SH.bd_law_led
      (case a => k_is); (case l => k_is); (case c => k_is); (case k => k_is)
    have F_law_tiny : SH.FunAtX KX mg "_law_tiny" 70 ["_law_bag_here"] := by
      refine' SH.fun_at KX G ?a ?l ?c ?k SH.bd_law_tiny
      (case a => k_is); (case l => k_is); (case c => k_is); (case k => k_is)
    have F_law_cut_fleet : SH.FunAtX KX mg "_law_cut_fleet" 71 ["_law_bag_here", "_law_many", "_law_most"] := by
      refine' SH.fun_at KX G ?a ?l ?c ?k SH.bd_law_cut_fleet
      (case a => k_is); (case l => k_is); (case c => k_is); (case k => k_is)
    have F_law_exchanged : SH.FunAtX KX mg "_law_exchanged" 72 ["_law_fleet_here", "_law_plan_here", "_law_lease"] := by
      refine' SH.fun_at KX G ?a ?l ?c ?k SH.bd_law_exchanged
      (case a => k_is); (case l => k_is); (case c => k_is); (case k => k_is)
    have F_law_heard : SH.FunAtX KX mg "_law_heard" 73 ["_law_act"] := by
      refine' SH.fun_at KX G ?a ?l ?c ?k SH.bd_law_heard
      (case a => k_is); (case l => k_is); (case c => k_is); (case k => k_is)
    have A : SH.TopsX KX mg := ⟨Fis_integer, Fis_name, Fis_service, Fis_lease, Fsize, Frestarts_of, Fleases_of, Flease_in, Fend_of, Freduced, Fjoined, Fcommon_length, Fway, Fvertices_of, Fedges_with, Faparts, Fcan_be_edited, Fedits_of, Fturned_hops, Fedited, Fdifferences, Frows_of, Fsteps_ahead, Fturned_about, Fin_order, Fbarring, Fleads, Fcheck_leads, Fscript_to, Fedits_from, Fclass_of, Ffewest_edits, F_law_bag, F_law_take, F_law_some, F_law_mixed, F_law_alike, F_law_names, F_law_fleet, F_law_plan, F_law_end, F_law_leases, F_law_pins, F_law_stands, F_law_reduced, F_law_vertex, F_law_way, F_law_apart, F_law_near, F_law_depths, F_law_all_plans, F_law_led, F_law_tiny, F_law_cut_fleet, F_law_exchanged, F_law_heard⟩
    have nlen : mg "len" = none := PySem.W.mg_none_of KX G (by k_is)
    have nrange : mg "range" = none := PySem.W.mg_none_of KX G (by k_is)
    have ntuple : mg "tuple" = none := PySem.W.mg_none_of KX G (by k_is)
    have nlist : mg "list" = none := PySem.W.mg_none_of KX G (by k_is)
    have nint : mg "int" = none := PySem.W.mg_none_of KX G (by k_is)
    have nbool : mg "bool" = none := PySem.W.mg_none_of KX G (by k_is)
    have nstr : mg "str" = none := PySem.W.mg_none_of KX G (by k_is)
    have nabs : mg "abs" = none := PySem.W.mg_none_of KX G (by k_is)
    have nmin : mg "min" = none := PySem.W.mg_none_of KX G (by k_is)
    have nsorted : mg "sorted" = none := PySem.W.mg_none_of KX G (by k_is)
    have nisinstance : mg "isinstance" = none := PySem.W.mg_none_of KX G (by k_is)
    have nenumerate : mg "enumerate" = none := PySem.W.mg_none_of KX G (by k_is)
    have nzip : mg "zip" = none := PySem.W.mg_none_of KX G (by k_is)
    have nrepr : mg "repr" = none := PySem.W.mg_none_of KX G (by k_is)
    have ndict : mg "dict" = none := PySem.W.mg_none_of KX G (by k_is)
    have M : SH.Blt mg := by
      refine' SH.blt_at KX G nlen nrange ntuple nlist nint nbool nstr nabs nmin nsorted nisinstance nenumerate nzip nrepr ndict ?hLe ?hMo
      (case hLe => k_is); (case hMo => k_is)
    refine' SH.law_at_facts KX G hmg A M ?aC ?xL ?xB ?sa ?ga ?gg ?nb ?a1 ?t1 ?l1 ?c1 ?lc ?lv ?lf ?lcc ?hD ?su ?kC ?eC ?vC ?tC ?hC ?iC ?sC ?mC ?op ?zs ?al ?lk ?hcd ?lc3 ?lP ?hd ?nP ?nl ?hT
    (case aC => k_is)
    (case xL => k_is)
    (case xB => decide +kernel)
    (case sa => k_is)
    (case ga => k_is)
    (case gg => k_is)
    (case nb => k_is)
    (case a1 => k_is)
    (case t1 => k_is)
    (case l1 => k_is)
    (case c1 => k_is)
    (case lc => k_is)
    (case lv => rfl)
    (case lf => decide +kernel)
    (case lcc => k_is)
    (case hD => rfl)
    (case su => first | rfl | kernel_rfl | decide +kernel)
    (case kC => k_is)
    (case eC => k_is)
    (case vC => k_is)
    (case tC => k_is)
    (case hC => k_is)
    (case iC => k_is)
    (case sC => k_is)
    (case mC => k_is)
    (case op => k_is)
    (case zs => k_is)
    (case al => k_is)
    (case lk => k_is)
    (case hcd => k_is)
    (case lc3 => k_is)
    (case lP => rfl)
    (case hd => first | k_is | rfl | kernel_rfl | decide +kernel)
    (case nP => first | rfl | kernel_rfl | decide +kernel)
    (case nl => first | rfl | kernel_rfl | decide +kernel)
    (case hT => exact PySem.W.km_tabs_of Y _ (by first | rfl | decide | simp))
end JG
