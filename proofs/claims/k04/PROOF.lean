import PyProof.Rows.All
import Wide.All
import OpenK.AllK
import Wide.FinOn
import HandS.ForMost
import HandS.ForExc
import HandS.TupAny
import HandS.Evl
import HandS.Flow
import HandS.TupLe
import HandS.TupMul
import HandS.FStr
import HandS.Conv
import HandS.Zip
import HandS.IsInst
import HandS.StrMore
import HandS.StrSplit
import HandS.Style
import HandS.CallSlots
import HandS.TryOnly
import HandS.TryMany
import HandS.SuiteRaise
import HandS.RaiseFrom
import HandS.ExcOwn
import HandS.ExcInit
import HandS.ExcInitHot
import HandS.ExcField
import HandS.Deep
import HandS.Replace
import HandS.ReplaceLit
import HandS.SortRule
import HandS.SortInts
import HandS.SortKw
import HandS.Keys
import HandS.DictEq
import HandS.HotCalls
import HandS.MethStar
import HandS.ExcIs
import HandS.TryElse
import KE.GoesMore
import PyProof.ExcBaseAll.ValueError
import PyProof.ListMulRoad
import PyProof.FactsAll.tuple_2
import HandS.TupSets
import HandS.More
import HandS.SetKeys
import HandS.ListItems
import HandS.ReplaceDef
import HandS.ForSpec
import PyProof.EqAt
import PyProof.EqKinds
import PyProof.TupleCall
import Open.SpecLaws
import KE.OsGo
import HandS.Iter
import HandS.DictComp
import HandS.Dict
import HandS.Finally
import KE.IntTextLaws
import KE.LtData
import PyProof.Rows.CountFlat
import KE.KExcIs
import PyProof.SliceList
import PySem.Challenge.RW_loghall_k04_whole_texts_read_as_rows
set_option Elab.async false
set_option linter.all false
set_option maxRecDepth 100000
set_option maxHeartbeats 2000000
/-! The pure layer: values as data (D), mutable things as numbered cells (Sto), a def as a function of data and cells. -/
namespace Dn
open PySem PySem.Spec PyProof.Rows L2
/-- pure data; ob l: the thing in cell l; scr: the law's script -/
inductive D where
  | non | bl (b : Bool) | int (i : Int) | str (x : List Nat) | tup (ds : List D) | lst (ds : List D) | scr (ds : List D) | ob (l : Nat)
inductive Cell where
  | ins (c : Nat) (fs : List (Nat × D))
  | lst (ds : List D)
  | dic (kvs : List (Sum Int (List Nat) × D))
  | loc (u : HO) (kvs : List (Sum Int (List Nat) × D))
abbrev DKey := Sum Int (List Nat)
abbrev Sto := List Cell
abbrev Rho := List (Option D)
structure Er where
  cls : Nat
  fs : List (Nat × D)
inductive Res (α : Type) where
  | ok (a : α) (O : Sto) | exc (e : Er) (O : Sto) | bad
abbrev ER := Res D
inductive SR where
  | nx (r : Rho) (O : Sto) | ret (d : D) (O : Sto) | bk (r : Rho) (O : Sto) | ct (r : Rho) (O : Sto) | exc (e : Er) (r : Rho) (O : Sto) | bad
abbrev DE0 := Rho → Sto → ER
abbrev DS0 := Rho → Sto → SR
/-- what is fixed: the written part, the fields' names, the classes' places -/
structure Ctx where
  K : PySem.W.Frag
  fn : Nat → Str
  fN : Nat
  finj : ∀ i j, i < fN → j < fN → fn i = fn j → i = j
  cl : Nat → Option Addr
  ec : Nat → Option Addr
  att : Nat → Nat → Bool
/-- the ghost: what is frozen, where the cells lie, how many there are -/
structure G where
  F : Hp
  θ : Nat → Addr
  n : Nat
def sV (x : List Nat) : V := .str ⟨x.toArray⟩
def kD : DKey → Key
  | .inl i => .inl i
  | .inr x => .inr ⟨x.toArray⟩
mutual
def Shr (K : PySem.W.Frag) (g : G) : D → V → Prop
  | .non, v => v = .non
  | .bl b, v => v = .bl b
  | .int i, v => v = .int i
  | .str x, v => v = sV x
  | .tup ds, v => ∃ a vs, v = .ref a ∧ SqT K g.F a vs ∧ ShrL K g ds vs
  | .lst ds, v => ∃ a vs, v = .ref a ∧ g.F a = some (.lst vs) ∧ ShrL K g ds vs
  | .scr ds, v => ∃ a vs, v = .ref a ∧ SqL K g.F a vs ∧ ShrL K g ds vs
  | .ob l, v => v = .ref (g.θ l) ∧ l < g.n
def ShrL (K : PySem.W.Frag) (g : G) : List D → List V → Prop
  | [], vs => vs = []
  | d :: ds, vs => ∃ v r, vs = v :: r ∧ Shr K g d v ∧ ShrL K g ds r
end
def ShrF (C : Ctx) (g : G) : List (Nat × D) → List (Str × V) → Prop
  | [], vs => vs = []
  | p :: ds, vs => ∃ v r, vs = (C.fn p.1, v) :: r ∧ p.1 < C.fN ∧ Shr C.K g p.2 v ∧ ShrF C g ds r
def ShrK (K : PySem.W.Frag) (g : G) : List (DKey × D) → List (Key × V) → Prop
  | [], vs => vs = []
  | p :: ds, vs => ∃ v r, vs = (kD p.1, v) :: r ∧ Shr K g p.2 v ∧ ShrK K g ds r
def CellOk (C : Ctx) (g : G) (H : Hp) (a : Addr) : Cell → Prop
  | .ins c fs => ∃ A dx vs, C.cl c = some A ∧ H a = some (.ins A dx vs) ∧ ShrF C g fs vs
  | .lst ds => ∃ vs, H a = some (.lst vs) ∧ ShrL C.K g ds vs
  | .dic kvs => ∃ vs, H a = some (.dK vs) ∧ ShrK C.K g kvs vs
  | .loc u kvs => H a = some u ∧ ∃ od vs, u = .frz od (.dK vs) ∧ ShrK C.K g kvs vs
structure RepO (C : Ctx) (g : G) (H : Hp) (O : Sto) : Prop where
  n : g.n = O.length
  F : ∀ a o, g.F a = some o → H a = some o
  cell : ∀ (l : Nat) c, O[l]? = some c → CellOk C g H (g.θ l) c
  fresh : ∀ l, l < g.n → g.F (g.θ l) = none
  inj : ∀ i j, i < g.n → j < g.n → g.θ i = g.θ j → i = j
structure RepS (C : Ctx) (g : G) (σ : L2.St) (r : Rho) : Prop where
  len : σ.length = r.length
  at' : ∀ (i : Nat) d, r[i]? = some (some d) → ∃ v, σ[i]? = some (some v) ∧ Shr C.K g d v
/-- the ghost grows -/
structure GLe (g g' : G) : Prop where
  F : ∀ a o, g.F a = some o → g'.F a = some o
  θ : ∀ l, l < g.n → g'.θ l = g.θ l
  n : g.n ≤ g'.n
/-- .. and the heap: what is tracked outside the cells stays; new cells are new -/
structure Ext (g : G) (H : Hp) (g' : G) (H' : Hp) : Prop where
  le : GLe g g'
  keep : ∀ a o, H a = some o → (∀ l, l < g.n → g.θ l ≠ a) → H' a = some o
  new : ∀ l, g.n ≤ l → l < g'.n → H (g'.θ l) = none
  trk : ∀ l, l < g.n → H' (g.θ l) ≠ none
  frz : ∀ a o, g'.F a = some o → g.F a = some o ∨ H a = none
end Dn
set_option Elab.async false
set_option linter.all false
set_option maxRecDepth 100000
set_option maxHeartbeats 2000000
namespace Dn
open PySem PySem.Spec PyProof.Rows L2
section
variable {C : Ctx} {K : PySem.W.Frag} {g g' g'' : G} {H H' H'' : Hp} {O : Sto} {σ : L2.St} {r : Rho}
theorem ex_rd {F F' : Hp} {a : Addr} {u : HO} (e : ∀ a o, F a = some o → F' a = some o) (h : Rd F a u) : Rd F' a u := by
  rcases h with h | ⟨o, h⟩
  · exact .inl (e a _ h)
  · exact .inr ⟨o, e a _ h⟩
theorem ex_l {F F' : Hp} {a : Addr} {xs : List V} (e : ∀ a o, F a = some o → F' a = some o) (h : SqL K F a xs) : SqL K F' a xs := by
  rcases h with h | h
  · exact .inl (ex_rd e h)
  · exact .inr h
theorem ex_t {F F' : Hp} {a : Addr} {xs : List V} (e : ∀ a o, F a = some o → F' a = some o) (h : SqT K F a xs) : SqT K F' a xs := by
  rcases h with h | h
  · exact .inl (ex_rd e h)
  · exact .inr h
mutual
theorem Shr.mono (e : GLe g g') : ∀ (d : D) (v : V), Shr K g d v → Shr K g' d v
  | .non, _, h => h
  | .bl _, _, h => h
  | .int _, _, h => h
  | .str _, _, h => h
  | .tup ds, v, h => by
    simp only [Shr] at h ⊢
    obtain ⟨a, vs, h1, h2, h3⟩ := h
    exact ⟨a, vs, h1, ex_t e.F h2, ShrL.mono e ds vs h3⟩
  | .lst ds, v, h => by
    simp only [Shr] at h ⊢
    obtain ⟨a, vs, h1, h2, h3⟩ := h
    exact ⟨a, vs, h1, e.F _ _ h2, ShrL.mono e ds vs h3⟩
  | .scr ds, v, h => by
    simp only [Shr] at h ⊢
    obtain ⟨a, vs, h1, h2, h3⟩ := h
    exact ⟨a, vs, h1, ex_l e.F h2, ShrL.mono e ds vs h3⟩
  | .ob l, v, h => by
    simp only [Shr] at h ⊢
    obtain ⟨h1, h2⟩ := h
    exact ⟨by rw [e.θ l h2]; exact h1, Nat.lt_of_lt_of_le h2 e.n⟩
theorem ShrL.mono (e : GLe g g') : ∀ (ds : List D) (vs : List V), ShrL K g ds vs → ShrL K g' ds vs
  | [], _, h => by simp only [ShrL] at h ⊢; exact h
  | d :: ds, vs, h => by
    simp only [ShrL] at h ⊢
    obtain ⟨v, q, h1, h2, h3⟩ := h
    exact ⟨v, q, h1, Shr.mono e d v h2, ShrL.mono e ds q h3⟩
end
theorem ShrF.mono (e : GLe g g') : ∀ (ds : List (Nat × D)) (vs : List (Str × V)), ShrF C g ds vs → ShrF C g' ds vs
  | [], _, h => h
  | p :: ds, vs, ⟨v, q, h1, h2, h3, h4⟩ => ⟨v, q, h1, h2, Shr.mono e _ _ h3, ShrF.mono e ds q h4⟩
theorem ShrK.mono (e : GLe g g') : ∀ (ds : List (DKey × D)) (vs : List (Key × V)), ShrK K g ds vs → ShrK K g' ds vs
  | [], _, h => h
  | p :: ds, vs, ⟨v, q, h1, h2, h3⟩ => ⟨v, q, h1, Shr.mono e _ _ h2, ShrK.mono e ds q h3⟩
theorem CellOk.mono (e : GLe g g') {a : Addr} : ∀ {c : Cell}, CellOk C g H a c → CellOk C g' H a c
  | .ins _ _, ⟨A, dx, vs, h1, h2, h3⟩ => ⟨A, dx, vs, h1, h2, h3.mono e⟩
  | .lst _, ⟨vs, h2, h3⟩ => ⟨vs, h2, ShrL.mono e _ _ h3⟩
  | .dic _, ⟨vs, h2, h3⟩ => ⟨vs, h2, h3.mono e⟩
  | .loc _ _, ⟨h2, od, vs, h1, h3⟩ => ⟨h2, od, vs, h1, h3.mono e⟩
theorem CellOk.heap {a b : Addr} (h : H a = H' b) : ∀ {c : Cell}, CellOk C g H a c → CellOk C g H' b c
  | .ins _ _, ⟨A, dx, vs, h1, h2, h3⟩ => ⟨A, dx, vs, h1, h ▸ h2, h3⟩
  | .lst _, ⟨vs, h2, h3⟩ => ⟨vs, h ▸ h2, h3⟩
  | .dic _, ⟨vs, h2, h3⟩ => ⟨vs, h ▸ h2, h3⟩
  | .loc _ _, ⟨h2, h3⟩ => ⟨h ▸ h2, h3⟩
theorem CellOk.some' {a : Addr} : ∀ {c : Cell}, CellOk C g H a c → ∃ o, H a = some o ∧ True
  | .ins _ _, ⟨A, dx, vs, h1, h2, h3⟩ => ⟨_, h2, trivial⟩
  | .lst _, ⟨vs, h2, h3⟩ => ⟨_, h2, trivial⟩
  | .dic _, ⟨vs, h2, h3⟩ => ⟨_, h2, trivial⟩
  | .loc _ _, ⟨h2, _⟩ => ⟨_, h2, trivial⟩
theorem GLe.refl (g : G) : GLe g g := ⟨fun _ _ h => h, fun _ _ => rfl, Nat.le_refl _⟩
theorem GLe.trans (a : GLe g g') (b : GLe g' g'') : GLe g g'' :=
  ⟨fun x o h => b.F x o (a.F x o h), fun l h => (b.θ l (Nat.lt_of_lt_of_le h a.n)).trans (a.θ l h), Nat.le_trans a.n b.n⟩
theorem RepO.at (R : RepO C g H O) {l : Nat} (h : l < g.n) : ∃ c, O[l]? = some c ∧ CellOk C g H (g.θ l) c := by
  have hl : l < O.length := R.n ▸ h
  exact ⟨O[l], List.getElem?_eq_getElem hl, R.cell l _ (List.getElem?_eq_getElem hl)⟩
theorem RepO.trk (R : RepO C g H O) {l : Nat} (h : l < g.n) : H (g.θ l) ≠ none := by
  obtain ⟨c, _, k⟩ := R.at h
  obtain ⟨o, q, _⟩ := k.some'
  rw [q]; exact fun z => nomatch z
theorem Ext.refl (R : RepO C g H O) : Ext g H g H := ⟨GLe.refl g, fun _ _ h _ => h, fun l h h' => absurd h' (Nat.not_lt.mpr h), fun _ h => R.trk h, fun _ _ h => .inl h⟩
theorem Ext.trans (a : Ext g H g' H') (b : Ext g' H' g'' H'') : Ext g H g'' H'' where
  le := a.le.trans b.le
  keep := fun x o h n => b.keep x o (a.keep x o h n) fun l hl e => by
    by_cases q : l < g.n
    · exact n l q (by rw [← a.le.θ l q]; exact e)
    · have z := a.new l (Nat.le_of_not_lt q) hl
      rw [e, h] at z; cases z
  new := fun l h h' => by
    by_cases q : l < g'.n
    · rw [b.le.θ l q]; exact a.new l h q
    · have z := b.new l (Nat.le_of_not_lt q) h'
      cases e : H (g''.θ l) with
      | none => rfl
      | some o =>
        by_cases c : ∃ k, k < g.n ∧ g.θ k = g''.θ l
        · obtain ⟨k, hk, ek⟩ := c
          exact absurd (ek ▸ z) (a.trk k hk)
        · have z' := a.keep _ o e fun k hk ek => c ⟨k, hk, ek⟩
          rw [z] at z'; cases z'
  trk := fun l h => by
    have z := b.trk l (Nat.lt_of_lt_of_le h a.le.n)
    rw [a.le.θ l h] at z; exact z
  frz := fun x o h => by
    rcases b.frz x o h with h | h
    · exact a.frz x o h
    · refine .inr ?_
      cases e : H x with
      | none => rfl
      | some u =>
        by_cases c : ∃ k, k < g.n ∧ g.θ k = x
        · obtain ⟨k, hk, ek⟩ := c
          exact absurd (ek ▸ h) (a.trk k hk)
        · have z' := a.keep _ u e fun k hk ek => c ⟨k, hk, ek⟩
          rw [h] at z'; cases z'
theorem RepS.mono (e : GLe g g') (R : RepS C g σ r) : RepS C g' σ r := ⟨R.len, fun i d h => let ⟨v, h1, h2⟩ := R.at' i d h; ⟨v, h1, h2.mono e⟩⟩
theorem RepS.set {i : Nat} {d : D} {v : V} (R : RepS C g σ r) (h : Shr C.K g d v) : RepS C g (σ.set i (some v)) (r.set i (some d)) :=
  ⟨by simp [R.len], fun j d' hj => by
    by_cases e : i = j
    · subst e
      by_cases hi : i < r.length
      · rw [List.getElem?_set_self hi] at hj
        cases hj
        exact ⟨v, List.getElem?_set_self (by rw [R.len]; exact hi), h⟩
      · rw [List.getElem?_eq_none (by simpa using hi)] at hj; cases hj
    · rw [List.getElem?_set_ne e] at hj ⊢
      exact R.at' j d' hj⟩
/-- forgetting -/
theorem RepS.unset {i : Nat} (R : RepS C g σ r) : RepS C g σ (r.set i none) :=
  ⟨by simp [R.len], fun j d' hj => by
    by_cases e : i = j
    · subst e
      by_cases hi : i < r.length
      · rw [List.getElem?_set_self hi] at hj
        cases hj
      · rw [List.getElem?_eq_none (by simpa using hi)] at hj; cases hj
    · rw [List.getElem?_set_ne e] at hj
      exact R.at' j d' hj⟩
theorem RepS.unset2 {i : Nat} (R : RepS C g σ r) : RepS C g (σ.set i none) (r.set i none) :=
  ⟨by simp [R.len], fun j d' hj => by
    by_cases e : i = j
    · subst e
      by_cases hi : i < r.length
      · rw [List.getElem?_set_self hi] at hj
        cases hj
      · rw [List.getElem?_eq_none (by simpa using hi)] at hj; cases hj
    · rw [List.getElem?_set_ne e] at hj ⊢
      exact R.at' j d' hj⟩
def wipeR (r : Rho) : List Nat → Rho
  | [] => r
  | v :: vs => (wipeR r vs).set v none
theorem RepS.wipe (R : RepS C g σ r) : ∀ vs : List Nat, RepS C g (L2.wipe σ vs) (wipeR r vs)
  | [] => R
  | _ :: vs => (R.wipe vs).unset2
/-- a new object frozen -/
def G.frz (g : G) (p : Addr) (o : HO) : G := { g with F := upd g.F p o }
theorem RepO.ne (R : RepO C g H O) {p : Addr} (hp : H p = none) {l : Nat} (h : l < g.n) : g.θ l ≠ p := fun e => R.trk h (e ▸ hp)
theorem RepO.Fnone (R : RepO C g H O) {p : Addr} (hp : H p = none) : g.F p = none := by
  cases e : g.F p with
  | none => rfl
  | some o => rw [R.F p o e] at hp; cases hp
theorem GLe.frz {p : Addr} {o : HO} (h : g.F p = none) : GLe g (g.frz p o) :=
  ⟨fun a u e => by
    show upd g.F p o a = some u
    rw [upd_ne (ne_of_none e h)]; exact e, fun _ _ => rfl, Nat.le_refl _⟩
theorem RepO.frz (R : RepO C g H O) {p : Addr} {o : HO} (hp : H p = none) : RepO C (g.frz p o) (upd H p o) O := by
  have le := GLe.frz (o := o) (R.Fnone hp)
  refine ⟨R.n, fun a u e => ?_, fun l c e => ?_, fun l hl => ?_, R.inj⟩
  · by_cases q : a = p
    · subst q
      have : upd g.F a o a = some u := e
      rw [upd_same] at this ⊢; exact this
    · have e' : upd g.F p o a = some u := e
      rw [upd_ne q] at e' ⊢
      exact R.F a u e'
  · have hl : l < g.n := by rw [R.n]; exact (List.getElem?_eq_some_iff.mp e).1
    refine ((R.cell l c e).mono le).heap ?_
    show H (g.θ l) = upd H p o (g.θ l)
    rw [upd_ne (R.ne hp hl)]
  · show upd g.F p o (g.θ l) = none
    rw [upd_ne (R.ne hp hl)]
    exact R.fresh l hl
theorem Ext.freeze (R : RepO C g H O) {p : Addr} {o : HO} (hp : H p = none) : Ext g H (g.frz p o) (upd H p o) :=
  ⟨GLe.frz (R.Fnone hp), fun a u e _ => by rw [upd_ne (ne_of_none e hp)]; exact e, fun l h h' => absurd h' (Nat.not_lt.mpr h), fun l hl => by
    rw [upd_ne (R.ne hp hl)]; exact R.trk hl, fun a u e => by
    by_cases q : a = p
    · subst q; exact .inr hp
    · have e' : upd g.F p o a = some u := e
      rw [upd_ne q] at e'
      exact .inl e'⟩
/-- a new cell -/
def G.add (g : G) (p : Addr) : G := { g with θ := fun l => if l = g.n then p else g.θ l, n := g.n + 1 }
theorem G.add_at {p : Addr} : (g.add p).θ g.n = p := if_pos rfl
theorem G.add_ne {p : Addr} {l : Nat} (h : l < g.n) : (g.add p).θ l = g.θ l := if_neg (Nat.ne_of_lt h)
theorem GLe.add {p : Addr} : GLe g (g.add p) := ⟨fun _ _ h => h, fun _ h => G.add_ne h, Nat.le_succ _⟩
/-- the heap H' is H with things at p and at new places of no cell -/
theorem RepO.add (R : RepO C g H O) {p : Addr} {c : Cell} (hp : H p = none) (hk : ∀ a o, H a = some o → H' a = some o) (new : CellOk C (g.add p) H' p c) : RepO C (g.add p) H' (O ++ [c]) := by
  refine ⟨by show g.n + 1 = _; simp [R.n], fun a u e => hk a u (R.F a u e), fun l c' e => ?_, fun l hl => ?_, fun i j hi hj e => ?_⟩
  · by_cases q : l < g.n
    · rw [List.getElem?_append_left (by rw [← R.n]; exact q)] at e
      rw [G.add_ne q]
      obtain ⟨o, ho, _⟩ := (R.cell l c' e).some'
      exact ((R.cell l c' e).mono GLe.add).heap (by rw [ho, hk _ _ ho])
    · have hl : l < (O ++ [c]).length := (List.getElem?_eq_some_iff.mp e).1
      simp at hl
      have el : l = g.n := by have := R.n; omega
      subst el
      rw [G.add_at]
      rw [R.n, List.getElem?_concat_length] at e
      cases e
      exact new
  · by_cases q : l < g.n
    · rw [G.add_ne q]; exact R.fresh l q
    · have hl : l < g.n + 1 := hl
      have el : l = g.n := by omega
      subst el
      rw [G.add_at]
      exact R.Fnone hp
  · have hi : i < g.n + 1 := hi
    have hj : j < g.n + 1 := hj
    by_cases qi : i < g.n
    · by_cases qj : j < g.n
      · rw [G.add_ne qi, G.add_ne qj] at e
        exact R.inj i j qi qj e
      · have ej : j = g.n := by omega
        subst ej
        rw [G.add_ne qi, G.add_at] at e
        exact absurd e (R.ne hp qi)
    · have ei : i = g.n := by omega
      subst ei
      by_cases qj : j < g.n
      · rw [G.add_ne qj, G.add_at] at e
        exact absurd e.symm (R.ne hp qj)
      · omega
theorem Ext.add (R : RepO C g H O) {p : Addr} (hp : H p = none) (hk : ∀ a o, H a = some o → H' a = some o) : Ext g H (g.add p) H' :=
  ⟨GLe.add, fun a u e _ => hk a u e, fun l h h' => by
    have h' : l < g.n + 1 := h'
    have el : l = g.n := by omega
    subst el
    rw [G.add_at]; exact hp, fun l hl => by
    cases e : H (g.θ l) with
    | none => exact absurd e (R.trk hl)
    | some o => rw [hk _ _ e]; exact (fun z => nomatch z), fun _ _ h => .inl h⟩
/-- a cell is written -/
theorem RepO.set (R : RepO C g H O) {l : Nat} {o : HO} {c : Cell} (hl : l < g.n) (new : CellOk C g (upd H (g.θ l) o) (g.θ l) c) : RepO C g (upd H (g.θ l) o) (O.set l c) := by
  refine ⟨by simp [R.n], fun a u e => ?_, fun k c' e => ?_, R.fresh, R.inj⟩
  · have : a ≠ g.θ l := fun z => by have q := R.fresh l hl; rw [← z, e] at q; cases q
    rw [upd_ne this]; exact R.F a u e
  · by_cases q : l = k
    · subst q
      rw [List.getElem?_set_self (by rw [← R.n]; exact hl)] at e
      cases e
      exact new
    · rw [List.getElem?_set_ne q] at e
      have hk : k < g.n := by rw [R.n]; exact (List.getElem?_eq_some_iff.mp e).1
      refine (R.cell k c' e).heap ?_
      rw [upd_ne fun z => q (R.inj _ _ hl hk z.symm)]
theorem Ext.set (R : RepO C g H O) {l : Nat} {o : HO} (hl : l < g.n) : Ext g H g (upd H (g.θ l) o) :=
  ⟨GLe.refl g, fun a u e n => by rw [upd_ne (n l hl).symm]; exact e, fun l h h' => absurd h' (Nat.not_lt.mpr h), fun k hk => by
    by_cases q : k = l
    · subst q; rw [upd_same]; exact fun z => nomatch z
    · rw [upd_ne fun z => q (R.inj _ _ hk hl z)]; exact R.trk hk, fun _ _ h => .inl h⟩
end
/-! ### what follows -/
/-- an error lies at the class's address, with its own dict -/
def ErOk (C : Ctx) (g : G) (H : Hp) (e : Er) (cv : Value) (dx : Option Addr) : Prop :=
  ∃ A, C.ec e.cls = some A ∧ cv = .ref A ∧ ((e.fs = [] ∧ dx = none) ∨ ∃ d vs, dx = some d ∧ e.fs ≠ [] ∧ H d = some (.xd vs) ∧ ShrF C g e.fs vs)
class Rel (α : Type) (β : outParam Type) where
  sh : Ctx → G → α → β → Prop
  mono : ∀ {C : Ctx} {g g' : G} {a : α} {b : β}, GLe g g' → sh C g a b → sh C g' a b
instance : Rel D V := ⟨fun C => Shr C.K, fun e h => Shr.mono e _ _ h⟩
instance : Rel (List D) (List V) := ⟨fun C => ShrL C.K, fun e h => ShrL.mono e _ _ h⟩
instance : Rel Bool Bool := ⟨fun _ _ a b => a = b, fun _ h => h⟩
section
variable {α β γ δ : Type} [Rel α β] [Rel γ δ]
def Post (C : Ctx) (W : WX) (σ : L2.St) (g : G) (H : Hp) (x : Res α) (Q : β → Hp → Prop) : Prop :=
  match x with
  | .ok d O => ∀ v g' H', Ext g H g' H' → RepO C g' H' O → Rel.sh C g' d v → Q v H'
  | .exc e O => ∀ cv dx g' H', Ext g H g' H' → RepO C g' H' O → ErOk C g' H' e cv dx → W cv dx σ H'
  | .bad => False
def PostS (C : Ctx) (W : WX) (g : G) (H : Hp) (x : SR) (E : Ends) : Prop :=
  match x with
  | .nx r O => ∀ σ' g' H', Ext g H g' H' → RepO C g' H' O → RepS C g' σ' r → E.nx σ' H'
  | .bk r O => ∀ σ' g' H', Ext g H g' H' → RepO C g' H' O → RepS C g' σ' r → E.bk σ' H'
  | .ct r O => ∀ σ' g' H', Ext g H g' H' → RepO C g' H' O → RepS C g' σ' r → E.ct σ' H'
  | .ret d O => ∀ v g' H', Ext g H g' H' → RepO C g' H' O → Shr C.K g' d v → E.rt v H'
  | .exc e r O => ∀ cv dx σ' g' H', Ext g H g' H' → RepO C g' H' O → RepS C g' σ' r → ErOk C g' H' e cv dx → W cv dx σ' H'
  | .bad => False
/-! ### binds -/
def Res.bind {α γ : Type} (x : Res α) (k : α → Sto → Res γ) : Res γ := match x with | .ok d O => k d O | .exc e O => .exc e O | .bad => .bad
def Res.bindS {α : Type} (x : Res α) (r : Rho) (k : α → Sto → SR) : SR := match x with | .ok d O => k d O | .exc e O => .exc e r O | .bad => .bad
def SR.bind (x : SR) (k : Rho → Sto → SR) : SR := match x with | .nx r O => k r O | .ret d O => .ret d O | .bk r O => .bk r O | .ct r O => .ct r O | .exc e r O => .exc e r O | .bad => .bad
/-! ### the judgements -/
/-- a reading asks no more than what the pure function gives -/
def Sat (C : Ctx) (W : WX) (te : L2.St → Hp → (β → Hp → Prop) → Prop) (f : Rho → Sto → Res α) : Prop :=
  ∀ g σ H r O, RepO C g H O → RepS C g σ r → ∀ Q, Post C W σ g H (f r O) Q → te σ H Q
def SatS (C : Ctx) (W : WX) (t : TS) (f : DS0) : Prop :=
  ∀ g σ H r O, RepO C g H O → RepS C g σ r → ∀ E, PostS C W g H (f r O) E → t E σ H
structure DE (C : Ctx) (X : Cx) (W : WX) (e : Expr) (f : DE0) : Prop where
  ex : ∃ te, PE X e te ∧ Sat C W te f
structure DT (C : Ctx) (X : Cx) (W : WX) (e : Expr) (f : Rho → Sto → Res Bool) : Prop where
  ex : ∃ te, PT X e te ∧ Sat C W te f
structure DA (C : Ctx) (X : Cx) (W : WX) (es : List Expr) (f : Rho → Sto → Res (List D)) : Prop where
  ex : ∃ te, PA X es te ∧ Sat C W te f
structure DS (C : Ctx) (X : Cx) (W : WX) (st : Stmt) (f : DS0) : Prop where
  ex : ∃ t, PS X st t ∧ SatS C W t f
structure DSs (C : Ctx) (X : Cx) (W : WX) (st : List Stmt) (f : DS0) : Prop where
  ex : ∃ t, PSs X st t ∧ SatS C W t f
section
variable {C : Ctx} {W : WX} {σ : L2.St} {g g' : G} {H H' : Hp} {r : Rho} {O : Sto}
theorem Post.shift {x : Res α} {Q : β → Hp → Prop} (e : Ext g H g' H') (h : Post C W σ g H x Q) : Post C W σ g' H' x Q := by
  cases x with
  | ok d2 O2 => exact fun v2 g2 H2 e2 => h v2 g2 H2 (e.trans e2)
  | exc er O2 => exact fun v2 d2 g2 H2 e2 => h v2 d2 g2 H2 (e.trans e2)
  | bad => exact h
theorem PostS.shift {x : SR} {E : Ends} (e : Ext g H g' H') (h : PostS C W g H x E) : PostS C W g' H' x E := by
  cases x with
  | nx d2 O2 => exact fun v2 g2 H2 e2 => h v2 g2 H2 (e.trans e2)
  | bk d2 O2 => exact fun v2 g2 H2 e2 => h v2 g2 H2 (e.trans e2)
  | ct d2 O2 => exact fun v2 g2 H2 e2 => h v2 g2 H2 (e.trans e2)
  | ret d2 O2 => exact fun v2 g2 H2 e2 => h v2 g2 H2 (e.trans e2)
  | exc er r O2 => exact fun v2 d2 s2 g2 H2 e2 => h v2 d2 s2 g2 H2 (e.trans e2)
  | bad => exact h
theorem Post.fin {a : α} {Q : β → Hp → Prop} {v : β} (R : RepO C g H O) (s : Rel.sh C g a v) (h : Post C W σ g H (.ok a O) Q) : Q v H := h v g H (Ext.refl R) R s
theorem Sat.seq {te : L2.St → Hp → (β → Hp → Prop) → Prop} {f : Rho → Sto → Res α} (p : Sat C W te f) (R : RepO C g H O) (S : RepS C g σ r) {k : α → Sto → Res γ} {Q : δ → Hp → Prop} {Q2 : β → Hp → Prop}
    (h : Post C W σ g H ((f r O).bind k) Q)
    (c : ∀ a O' v g' H', Ext g H g' H' → RepO C g' H' O' → RepS C g' σ r → Rel.sh C g' a v → Post C W σ g' H' (k a O') Q → Q2 v H') : te σ H Q2 := by
  refine p g σ H r O R S Q2 ?_
  cases q : f r O with
  | ok d O' =>
    rw [q] at h
    exact fun v g' H' e R' s => c d O' v g' H' e R' (S.mono e.le) s (Post.shift e h)
  | exc er O' => rw [q] at h; exact h
  | bad => rw [q] at h; exact h
theorem Sat.seqS {te : L2.St → Hp → (β → Hp → Prop) → Prop} {f : Rho → Sto → Res α} (p : Sat C W te f) (R : RepO C g H O) (S : RepS C g σ r) {k : α → Sto → SR} {E : Ends} {Q2 : β → Hp → Prop}
    (h : PostS C W g H ((f r O).bindS r k) E)
    (c : ∀ a O' v g' H', Ext g H g' H' → RepO C g' H' O' → RepS C g' σ r → Rel.sh C g' a v → PostS C W g' H' (k a O') E → Q2 v H') : te σ H Q2 := by
  refine p g σ H r O R S Q2 ?_
  cases q : f r O with
  | ok d O' =>
    rw [q] at h
    exact fun v g' H' e R' s => c d O' v g' H' e R' (S.mono e.le) s (PostS.shift e h)
  | exc er O' =>
    rw [q] at h
    exact fun cv dx g' H' e R' k => h cv dx σ g' H' e R' (S.mono e.le) k
  | bad => rw [q] at h; exact h
theorem SatS.seq {t : TS} {f : DS0} (p : SatS C W t f) (R : RepO C g H O) (S : RepS C g σ r) {k : Rho → Sto → SR} {E : Ends} {N : L2.St → Hp → Prop}
    (h : PostS C W g H ((f r O).bind k) E)
    (c : ∀ r' O' σ' g' H', Ext g H g' H' → RepO C g' H' O' → RepS C g' σ' r' → PostS C W g' H' (k r' O') E → N σ' H') : t { E with nx := N } σ H := by
  refine p g σ H r O R S _ ?_
  cases q : f r O with
  | nx r' O' => rw [q] at h; exact fun σ' g' H' e R' s => c r' O' σ' g' H' e R' s (PostS.shift e h)
  | ret d O' => rw [q] at h; exact h
  | bk d O' => rw [q] at h; exact h
  | ct d O' => rw [q] at h; exact h
  | exc e d O' => rw [q] at h; exact h
  | bad => rw [q] at h; exact h
end
end
end Dn
set_option Elab.async false
set_option linter.all false
set_option maxRecDepth 100000
set_option maxHeartbeats 2000000
namespace Dn
open PySem PySem.Spec PyProof.Rows L2
section
variable {C : Ctx} {X : Cx} {W : WX}
/-! ### names, constants -/
def varE (i : Nat) : DE0 := fun r O => match r[i]? with | some (some d) => .ok d O | _ => .bad
theorem d_var (i : Nat) {x : Str} {pos : Pos} (hN : X.N[i]? = some x := by rfl) (hv : Vis X.env.scope x := by first | exact Or.inl rfl | exact Or.inr (Or.inl rfl) | exact Or.inr (Or.inr rfl)) (hd : (x == ("__debug__" : Str)) = false := by decide)
    (hcd : (x == ("__classdict__" : Str)) = false := by decide) : DE C X W (.Name x pos) (varE i) := by
  refine ⟨tVar i, pe_var hN hv hd hcd, fun g σ H r O R S Q h => ?_⟩
  unfold varE at h
  split at h
  · rename_i d e
    obtain ⟨v, h1, h2⟩ := S.at' i d e
    exact ⟨v, h1, Post.fin R h2 h⟩
  · exact h.elim
def constE (d : D) : DE0 := fun _ O => .ok d O
theorem sat_c {d : D} {v : V} (h : ∀ g, Shr C.K g d v) : Sat C W (tC v) (constE d) := fun g σ H r O R S Q q => Post.fin R (h g) q
theorem d_int {i j pos} : DE C X W (.Constant (.int i) j pos) (constE (.int i)) := ⟨_, pe_int, sat_c fun _ => rfl⟩
theorem d_bl {b j pos} : DE C X W (.Constant (.bool b) j pos) (constE (.bl b)) := ⟨_, pe_bl, sat_c fun _ => rfl⟩
theorem d_non {j pos} : DE C X W (.Constant .none j pos) (constE .non) := ⟨_, pe_non, sat_c fun _ => rfl⟩
theorem d_str (l : List Nat) {x j pos} (hx : x = ⟨l.toArray⟩ := by first | rfl | decide +kernel) : DE C X W (.Constant (.str x) j pos) (constE (.str l)) := by
  subst hx
  exact ⟨_, pe_str, sat_c fun _ => rfl⟩
/-- a module's constant -/
theorem d_glob {x : Str} {d : D} {v : V} {u : Value} {pos : Pos} (hg : Gl X x) (hm : X.mg x = some u) (r : RelV v u) (s : ∀ g, Shr C.K g d v) (hd : (x == ("__debug__" : Str)) = false := by decide) : DE C X W (.Name x pos) (constE d) :=
  ⟨_, pe_glob hg hm r hd, sat_c s⟩
/-! ### two places, one place -/
abbrev O2 := D → D → Sto → ER
abbrev O1 := D → Sto → ER
/-- a two-place reading asks no more than the pure operation gives -/
def Sat2 (C : Ctx) (W : WX) (r : R2) (f : O2) : Prop := ∀ g H O, RepO C g H O → ∀ a b x y, Shr C.K g a x → Shr C.K g b y → ∀ σ Q, Post C W σ g H (f a b O) Q → r x y H Q
def Sat1 (C : Ctx) (W : WX) (r : V → Hp → VK → Prop) (f : O1) : Prop := ∀ g H O, RepO C g H O → ∀ a x, Shr C.K g a x → ∀ σ Q, Post C W σ g H (f a O) Q → r x H Q
def op2 (f : O2) (fa fb : DE0) : DE0 := fun r O => (fa r O).bind fun a O1 => (fb r O1).bind fun b O2 => f a b O2
def op1 (f : O1) (fa : DE0) : DE0 := fun r O => (fa r O).bind fun a O1 => f a O1
theorem sat_op {r : R2} {f : O2} {ta tb : TE} {fa fb : DE0} (hr : Sat2 C W r f) (ha : Sat C W ta fa) (hb : Sat C W tb fb) : Sat C W (tOp r ta tb) (op2 f fa fb) := fun g σ H ρ O R S Q h =>
  ha.seq R S h fun a O1 x g1 H1 e1 R1 S1 s1 h1 => hb.seq R1 S1 h1 fun b O2 y g2 H2 e2 R2 S2 s2 h2 => hr g2 H2 O2 R2 a b x y (s1.mono e2.le) s2 σ Q h2
theorem sat_un {r : V → Hp → VK → Prop} {f : O1} {ta : TE} {fa : DE0} (hr : Sat1 C W r f) (ha : Sat C W ta fa) : Sat C W (tUn r ta) (op1 f fa) := fun g σ H ρ O R S Q h =>
  ha.seq R S h fun a O1 x g1 H1 e1 R1 S1 s1 h1 => hr g1 H1 O1 R1 a x s1 σ Q h1
variable {a b c e : Expr} {fa fb fc fe : DE0} {pos : Pos}
theorem d_op {op : Operator} {r : R2} {f : O2} (ho : OpR X (binaryOp op) r) (hr : Sat2 C W r f) (ha : DE C X W a fa) (hb : DE C X W b fb) : DE C X W (.BinOp a op b pos) (op2 f fa fb) :=
  let ⟨_, pa, sa⟩ := ha.ex; let ⟨_, pb, sb⟩ := hb.ex; ⟨_, pe_op ho pa pb, sat_op hr sa sb⟩
theorem d_un {op : UnaryOp} {r : V → Hp → VK → Prop} {f : O1} (ho : UnR X (unaryOp op) r) (hr : Sat1 C W r f) (ha : DE C X W a fa) : DE C X W (.UnaryOp op a pos) (op1 f fa) :=
  let ⟨_, pa, sa⟩ := ha.ex; ⟨_, pe_un ho pa, sat_un hr sa⟩
theorem d_cmp {op : CmpOp} {r : R2} {f : O2} (ho : OpR X (compareOp op) r) (hr : Sat2 C W r f) (ha : DE C X W a fa) (hb : DE C X W b fb) (hm : behindInMarks op b = false := by first | exact nomark _ | rfl) : DE C X W (.Compare a [op] [b] pos) (op2 f fa fb) :=
  let ⟨_, pa, sa⟩ := ha.ex; let ⟨_, pb, sb⟩ := hb.ex; ⟨_, pe_cmpR ho pa pb hm, sat_op hr sa sb⟩
/-! ### tests -/
def asB (d : D) (O : Sto) : Res Bool := match d with | .bl b => .ok b O | _ => .bad
/-- a value's truth -/
def truD (d : D) (O : Sto) : Res Bool := match d with
  | .non => .ok false O
  | .bl b => .ok b O
  | .int i => .ok (i != 0) O
  | .str x => if x.length ≤ sizeLine then .ok (!x.isEmpty) O else .bad
  | .tup ds => .ok (!ds.isEmpty) O
  | .lst ds => .ok (!ds.isEmpty) O
  | .scr ds => .ok (!ds.isEmpty) O
  | .ob l => match O[l]? with | some (.lst ds) => .ok (!ds.isEmpty) O | some (.dic kvs) => .ok (!kvs.isEmpty) O | _ => .bad
theorem shrL_len {K : PySem.W.Frag} {g : G} : ∀ {ds : List D} {vs : List V}, ShrL K g ds vs → vs.length = ds.length
  | [], vs, h => by simp only [ShrL] at h; subst h; rfl
  | d :: ds, vs, h => by
    simp only [ShrL] at h
    obtain ⟨v, q, rfl, _, h3⟩ := h
    simp [shrL_len h3]
theorem shrL_emp {K : PySem.W.Frag} {g : G} {ds : List D} {vs : List V} (h : ShrL K g ds vs) : vs.isEmpty = ds.isEmpty := by
  have := shrL_len h
  cases ds <;> cases vs <;> simp_all
theorem shrK_emp {K : PySem.W.Frag} {g : G} {ds : List (DKey × D)} {vs : List (Key × V)} (h : ShrK K g ds vs) : vs.isEmpty = ds.isEmpty := by
  cases ds with
  | nil => simp only [ShrK] at h; subst h; rfl
  | cons p r => simp only [ShrK] at h; obtain ⟨v, q, rfl, _⟩ := h; rfl
theorem strlen (x : List Nat) : (⟨x.toArray⟩ : Str).length = x.length := by simp [Str.length]
theorem tru_of {g : G} {H : Hp} {O : Sto} (R : RepO C g H O) {d : D} {v : V} (s : Shr C.K g d v) {k : Bool} {O' : Sto} (h : truD d O = .ok k O') : O' = O ∧ TruV C.K v H k := by
  cases d with
  | non => simp only [truD, Res.ok.injEq] at h; obtain ⟨rfl, rfl⟩ := h; cases s; exact ⟨rfl, rfl⟩
  | bl b => simp only [truD, Res.ok.injEq] at h; obtain ⟨rfl, rfl⟩ := h; cases s; exact ⟨rfl, rfl⟩
  | int i => simp only [truD, Res.ok.injEq] at h; obtain ⟨rfl, rfl⟩ := h; cases s; exact ⟨rfl, rfl⟩
  | str x =>
    simp only [truD] at h
    split at h
    · rename_i hl
      simp only [Res.ok.injEq] at h
      obtain ⟨rfl, rfl⟩ := h
      cases s
      refine ⟨rfl, ?_, ?_⟩
      · rw [strlen]; exact hl
      · rw [strlen]; cases x <;> simp; omega
    · cases h
  | tup ds =>
    simp only [truD, Res.ok.injEq] at h; obtain ⟨rfl, rfl⟩ := h
    simp only [Shr] at s
    obtain ⟨a, vs, rfl, h2, h3⟩ := s
    exact ⟨rfl, .inr (.inl ⟨vs, ex_t R.F h2, by rw [shrL_emp h3]⟩)⟩
  | lst ds =>
    simp only [truD, Res.ok.injEq] at h; obtain ⟨rfl, rfl⟩ := h
    simp only [Shr] at s
    obtain ⟨a, vs, rfl, h2, h3⟩ := s
    exact ⟨rfl, .inl ⟨vs, SqL.of (R.F _ _ h2), by rw [shrL_emp h3]⟩⟩
  | scr ds =>
    simp only [truD, Res.ok.injEq] at h; obtain ⟨rfl, rfl⟩ := h
    simp only [Shr] at s
    obtain ⟨a, vs, rfl, h2, h3⟩ := s
    exact ⟨rfl, .inl ⟨vs, ex_l R.F h2, by rw [shrL_emp h3]⟩⟩
  | ob l =>
    simp only [truD] at h
    simp only [Shr] at s
    obtain ⟨rfl, hl⟩ := s
    split at h
    · rename_i ds e
      simp only [Res.ok.injEq] at h; obtain ⟨rfl, rfl⟩ := h
      obtain ⟨vs, h1, h2⟩ := R.cell l _ e
      exact ⟨rfl, .inl ⟨vs, SqL.of h1, by rw [shrL_emp h2]⟩⟩
    · rename_i ds e
      simp only [Res.ok.injEq] at h; obtain ⟨rfl, rfl⟩ := h
      obtain ⟨vs, h1, h2⟩ := R.cell l _ e
      exact ⟨rfl, .inr (.inr ⟨vs, h1, by rw [shrK_emp h2]⟩)⟩
    · cases h
theorem truD_ne (d : D) (O : Sto) (e : Er) (O' : Sto) : truD d O ≠ .exc e O' := by
  unfold truD
  split <;> (try split) <;> simp
/-- by the value's truth -/
def truT (f : DE0) : Rho → Sto → Res Bool := fun r O => (f r O).bind truD
theorem sat_tru {ta : TE} (sa : Sat C W ta fa) {T : PySem.W.Frag} (hT : T = C.K) : Sat C W (fun σ H Q => ta σ H fun x H' => ∃ k, TruV T x H' k ∧ Q k H') (truT fa) := fun g σ H r O R S Q h =>
  sa.seq R S h fun a O1 x g1 H1 e1 R1 S1 s1 h1 => by
    subst hT
    cases q : truD a O1 with
    | ok k O2 =>
      obtain ⟨rfl, t⟩ := tru_of R1 s1 q
      rw [q] at h1
      exact ⟨k, t, Post.fin R1 rfl h1⟩
    | exc e O2 => exact absurd q (truD_ne _ _ _ _)
    | bad => rw [q] at h1; exact h1.elim
theorem t_tru (hK : X.K = C.K) (h : DE C X W a fa) (he : ∀ whole, isTrue a X.env whole = (do let v ← whole; standAt a.pos; holding [v] (truthy v)) := by intro _; rfl) : DT C X W a (truT fa) :=
  let ⟨_, pa, sa⟩ := h.ex; ⟨_, pt_truth pa he, sat_tru sa hK⟩
/-- a comparison's -/
def cmpT (f : O2) (fa fb : DE0) : Rho → Sto → Res Bool := fun r O => (op2 f fa fb r O).bind asB
theorem sat_asB {ta : TE} (sa : Sat C W ta fa) : Sat C W (fun σ H Q => ta σ H fun x H' => ∃ k, x = .bl k ∧ Q k H') (fun r O => (fa r O).bind asB) := fun g σ H r O R S Q h =>
  sa.seq R S h fun d O1 x g1 H1 e1 R1 S1 s1 h1 => by
    cases d with
    | bl k => exact ⟨k, s1, Post.fin R1 rfl h1⟩
    | _ => exact h1.elim
theorem t_cmp {op : CmpOp} {r : R2} {f : O2} (ho : OpR X (compareOp op) r) (hr : Sat2 C W r f) (ha : DE C X W a fa) (hb : DE C X W b fb) (hm : behindInMarks op b = false := by first | exact nomark _ | rfl) : DT C X W (.Compare a [op] [b] pos) (cmpT f fa fb) :=
  let ⟨_, pa, sa⟩ := ha.ex; let ⟨_, pb, sb⟩ := hb.ex; ⟨_, pt_cmpR ho pa pb hm, sat_asB (sat_op hr sa sb)⟩
/-- a op b op' c -/
def chainE (f f' : O2) (fa fb fc : DE0) : DE0 := fun r O => (fa r O).bind fun a O1 => (fb r O1).bind fun b O2 => (f a b O2).bind fun z O3 => (asB z O3).bind fun k O4 => if k then (fc r O4).bind fun c O5 => f' b c O5 else .ok (.bl false) O4
def chainT (f f' : O2) (fa fb fc : DE0) : Rho → Sto → Res Bool := fun r O => (chainE f f' fa fb fc r O).bind asB
theorem sat_chain {q q' : R2} {f f' : O2} {ta tb tc : TE} (hr : Sat2 C W q f) (hr' : Sat2 C W q' f') (ha : Sat C W ta fa) (hb : Sat C W tb fb) (hc : Sat C W tc fc) :
    Sat C W (tChain q q' ta tb tc) (chainE f f' fa fb fc) := fun g σ H r O R S Q h => by
  refine ha.seq R S h fun a O1 x g1 H1 e1 R1 S1 s1 h1 => ?_
  refine hb.seq R1 S1 h1 fun b O2 y g2 H2 e2 R2 S2 s2 h2 => ?_
  refine hr g2 H2 O2 R2 a b x y (s1.mono e2.le) s2 σ _ ?_
  cases qq : f a b O2 with
  | ok z O3 =>
    rw [qq] at h2
    refine fun v g3 H3 e3 R3 s3 => ?_
    cases z with
    | bl k =>
      refine ⟨k, s3, ?_⟩
      have h3 := Post.shift e3 h2
      cases k with
      | true =>
        rw [if_pos rfl]
        exact Sat.seq hc R3 (S2.mono e3.le) h3 fun c O5 z g5 H5 e5 R5 S5 s5 h5 => hr' g5 H5 O5 R5 b c y z (Shr.mono (e3.le.trans e5.le) _ _ s2) s5 σ Q h5
      | false =>
        rw [if_neg Bool.false_ne_true]
        exact Post.fin R3 rfl h3
    | _ => exact h2.elim
  | exc e O3 => rw [qq] at h2; exact h2
  | bad => rw [qq] at h2; exact h2
theorem d_chain {op op' : CmpOp} {q q' : R2} {f f' : O2} (ho : OpR X (compareOp op) q) (ho' : OpR X (compareOp op') q') (hr : Sat2 C W q f) (hr' : Sat2 C W q' f') (ha : DE C X W a fa) (hb : DE C X W b fb) (hc : DE C X W c fc)
    (hm : lastMarks [op, op'] [b, c] = false := by with_unfolding_all rfl) : DE C X W (.Compare a [op, op'] [b, c] pos) (chainE f f' fa fb fc) :=
  let ⟨_, pa, sa⟩ := ha.ex; let ⟨_, pb, sb⟩ := hb.ex; let ⟨_, pc, sc⟩ := hc.ex; ⟨_, pe_chain ho ho' pa pb pc hm, sat_chain hr hr' sa sb sc⟩
theorem t_chain {op op' : CmpOp} {q q' : R2} {f f' : O2} (ho : OpR X (compareOp op) q) (ho' : OpR X (compareOp op') q') (hr : Sat2 C W q f) (hr' : Sat2 C W q' f') (ha : DE C X W a fa) (hb : DE C X W b fb) (hc : DE C X W c fc)
    (hm : lastMarks [op, op'] [b, c] = false := by with_unfolding_all rfl) : DT C X W (.Compare a [op, op'] [b, c] pos) (chainT f f' fa fb fc) :=
  let ⟨_, pa, sa⟩ := ha.ex; let ⟨_, pb, sb⟩ := hb.ex; let ⟨_, pc, sc⟩ := hc.ex; ⟨_, pt_chain ho ho' pa pb pc hm, sat_asB (sat_chain hr hr' sa sb sc)⟩
/-! ### and, or, not -/
def andT (f g : Rho → Sto → Res Bool) : Rho → Sto → Res Bool := fun r O => (f r O).bind fun k O1 => if k then g r O1 else .ok false O1
def orT (f g : Rho → Sto → Res Bool) : Rho → Sto → Res Bool := fun r O => (f r O).bind fun k O1 => if k then .ok true O1 else g r O1
def notT (f : Rho → Sto → Res Bool) : Rho → Sto → Res Bool := fun r O => (f r O).bind fun k O1 => .ok (!k) O1
/-- a test whatever its whole is -/
structure DW (C : Ctx) (X : Cx) (W : WX) (e : Expr) (f : Rho → Sto → Res Bool) : Prop where
  ex : ∃ te, PW X e te ∧ Sat C W te f
variable {ff gg : Rho → Sto → Res Bool} {rest : List Expr}
theorem DW.t (h : DW C X W e ff) : DT C X W e ff := let ⟨_, p, s⟩ := h.ex; ⟨_, p.pt, s⟩
theorem w_and1 (h : DT C X W a ff) : DW C X W (.BoolOp .And [a] pos) ff := let ⟨_, p, s⟩ := h.ex; ⟨_, pw_and1 p, s⟩
theorem w_or1 (h : DT C X W a ff) : DW C X W (.BoolOp .Or [a] pos) ff := let ⟨_, p, s⟩ := h.ex; ⟨_, pw_or1 p, s⟩
theorem w_and (ha : DT C X W a ff) (hb : DW C X W (.BoolOp .And (b :: rest) pos) gg) : DW C X W (.BoolOp .And (a :: b :: rest) pos) (andT ff gg) :=
  let ⟨_, pa, sa⟩ := ha.ex; let ⟨_, pb, sb⟩ := hb.ex; ⟨_, pw_and pa pb, fun g σ H r O R S Q h => sa.seq R S h fun k O1 k' g1 H1 e1 R1 S1 s1 h1 => by
    cases s1
    cases k with
    | true => rw [if_pos rfl]; exact sb g1 σ H1 r O1 R1 S1 Q h1
    | false => rw [if_neg Bool.false_ne_true]; exact Post.fin R1 rfl h1⟩
theorem w_or (ha : DT C X W a ff) (hb : DW C X W (.BoolOp .Or (b :: rest) pos) gg) : DW C X W (.BoolOp .Or (a :: b :: rest) pos) (orT ff gg) :=
  let ⟨_, pa, sa⟩ := ha.ex; let ⟨_, pb, sb⟩ := hb.ex; ⟨_, pw_or pa pb, fun g σ H r O R S Q h => sa.seq R S h fun k O1 k' g1 H1 e1 R1 S1 s1 h1 => by
    cases s1
    cases k with
    | true => rw [if_pos rfl]; exact Post.fin R1 rfl h1
    | false => rw [if_neg Bool.false_ne_true]; exact sb g1 σ H1 r O1 R1 S1 Q h1⟩
theorem t_not (ha : DT C X W a ff) : DT C X W (.UnaryOp .Not a pos) (notT ff) :=
  let ⟨_, pa, sa⟩ := ha.ex; ⟨_, pt_not pa, fun g σ H r O R S Q h => sa.seq R S h fun k O1 k' g1 H1 e1 R1 S1 s1 h1 => by
    cases s1
    exact Post.fin R1 rfl h1⟩
/-- .. as values, by truth -/
def andE (f g : DE0) : DE0 := fun r O => (f r O).bind fun d O1 => (truD d O1).bind fun k O2 => if k then g r O2 else .ok d O2
def orE (f g : DE0) : DE0 := fun r O => (f r O).bind fun d O1 => (truD d O1).bind fun k O2 => if k then .ok d O2 else g r O2
def notE (f : DE0) : DE0 := fun r O => (f r O).bind fun d O1 => (truD d O1).bind fun k O2 => .ok (.bl (!k)) O2
theorem d_one {op} (h : DE C X W a fa) : DE C X W (.BoolOp op [a] pos) fa := let ⟨_, p, s⟩ := h.ex; ⟨_, pe_one p, s⟩
theorem tru_post {γ δ : Type} [Rel γ δ] {g : G} {H : Hp} {O : Sto} {σ : L2.St} (R : RepO C g H O) {d : D} {v : V} (s : Shr C.K g d v) {k : Bool → Sto → Res γ} {Q : δ → Hp → Prop} (h : Post C W σ g H ((truD d O).bind k) Q) :
    ∃ b, TruV C.K v H b ∧ Post C W σ g H (k b O) Q := by
  cases q : truD d O with
  | ok b O2 =>
    obtain ⟨rfl, t⟩ := tru_of R s q
    rw [q] at h
    exact ⟨b, t, h⟩
  | exc e O2 => exact absurd q (truD_ne _ _ _ _)
  | bad => rw [q] at h; exact h.elim
theorem d_and (hK : X.K = C.K) (ha : DE C X W a fa) (hb : DE C X W (.BoolOp .And (b :: rest) pos) fb) : DE C X W (.BoolOp .And (a :: b :: rest) pos) (andE fa fb) :=
  let ⟨_, pa, sa⟩ := ha.ex; let ⟨_, pb, sb⟩ := hb.ex; ⟨_, pe_andT pa pb, fun g σ H r O R S Q h => sa.seq R S h fun d O1 v g1 H1 e1 R1 S1 s1 h1 => by
    obtain ⟨k, t, h2⟩ := tru_post R1 s1 h1
    refine ⟨k, hK ▸ t, ?_⟩
    cases k with
    | true => rw [if_pos rfl]; exact sb g1 σ H1 r O1 R1 S1 Q h2
    | false => rw [if_neg Bool.false_ne_true]; exact Post.fin R1 s1 h2⟩
theorem d_or (hK : X.K = C.K) (ha : DE C X W a fa) (hb : DE C X W (.BoolOp .Or (b :: rest) pos) fb) : DE C X W (.BoolOp .Or (a :: b :: rest) pos) (orE fa fb) :=
  let ⟨_, pa, sa⟩ := ha.ex; let ⟨_, pb, sb⟩ := hb.ex; ⟨_, pe_orT pa pb, fun g σ H r O R S Q h => sa.seq R S h fun d O1 v g1 H1 e1 R1 S1 s1 h1 => by
    obtain ⟨k, t, h2⟩ := tru_post R1 s1 h1
    refine ⟨k, hK ▸ t, ?_⟩
    cases k with
    | true => rw [if_pos rfl]; exact Post.fin R1 s1 h2
    | false => rw [if_neg Bool.false_ne_true]; exact sb g1 σ H1 r O1 R1 S1 Q h2⟩
theorem d_not (hK : X.K = C.K) (ha : DE C X W a fa) : DE C X W (.UnaryOp .Not a pos) (notE fa) :=
  let ⟨_, pa, sa⟩ := ha.ex; ⟨_, pe_notT pa, fun g σ H r O R S Q h => sa.seq R S h fun d O1 v g1 H1 e1 R1 S1 s1 h1 => by
    obtain ⟨k, t, h2⟩ := tru_post R1 s1 h1
    exact ⟨k, hK ▸ t, Post.fin R1 rfl h2⟩⟩
def ifE (c : Rho → Sto → Res Bool) (f g : DE0) : DE0 := fun r O => (c r O).bind fun k O1 => if k then f r O1 else g r O1
theorem d_ifExp (hc : DT C X W c ff) (ha : DE C X W a fa) (hb : DE C X W b fb) : DE C X W (.IfExp c a b pos) (ifE ff fa fb) :=
  let ⟨_, pc, sc⟩ := hc.ex; let ⟨_, pa, sa⟩ := ha.ex; let ⟨_, pb, sb⟩ := hb.ex; ⟨_, pe_ifExp pc pa pb, fun g σ H r O R S Q h => sc.seq R S h fun k O1 k' g1 H1 e1 R1 S1 s1 h1 => by
    cases s1
    cases k with
    | true => rw [if_pos rfl]; exact sa g1 σ H1 r O1 R1 S1 Q h1
    | false => rw [if_neg Bool.false_ne_true]; exact sb g1 σ H1 r O1 R1 S1 Q h1⟩
/-! ### arguments, displays -/
def nilA : Rho → Sto → Res (List D) := fun _ O => .ok [] O
def consA (f : DE0) (g : Rho → Sto → Res (List D)) : Rho → Sto → Res (List D) := fun r O => (f r O).bind fun d O1 => (g r O1).bind fun ds O2 => .ok (d :: ds) O2
variable {es : List Expr} {fas : Rho → Sto → Res (List D)}
theorem a_nil : DA C X W [] nilA := ⟨_, pa_nil, fun g σ H r O R S Q h => Post.fin R (by show ShrL _ _ [] []; simp [ShrL]) h⟩
theorem a_cons (ha : DE C X W e fe) (hr : DA C X W es fas) (hs : starEach (e :: es) X.env = (false, eval e X.env) :: starEach es X.env := by rfl) : DA C X W (e :: es) (consA fe fas) :=
  let ⟨_, pa, sa⟩ := ha.ex; let ⟨_, pb, sb⟩ := hr.ex; ⟨_, pa_cons pa pb hs, fun g σ H r O R S Q h => sa.seq R S h fun d O1 v g1 H1 e1 R1 S1 s1 h1 =>
    sb.seq R1 S1 h1 fun ds O2 vs g2 H2 e2 R2 S2 s2 h2 => Post.fin R2 (by
      show ShrL _ _ (d :: ds) (v :: vs)
      simp only [ShrL]
      exact ⟨v, vs, rfl, s1.mono e2.le, s2⟩) h2⟩
/-- a new list: frozen, or a cell -/
def mkL (m : Bool) (ds : List D) (O : Sto) : ER := if m then .ok (.ob O.length) (O ++ [.lst ds]) else .ok (.lst ds) O
theorem new_tup {g : G} {H : Hp} {O : Sto} {σ : L2.St} {ds : List D} {vs : List V} {Q : VK} (R : RepO C g H O) (s : ShrL C.K g ds vs) (h : Post C W σ g H (.ok (D.tup ds) O) Q) {p : Addr} (hp : H p = none) : Q (.ref p) (upd H p (.tup vs)) := by
  refine h _ (g.frz p (.tup vs)) _ (Ext.freeze R hp) (R.frz hp) ?_
  show Shr _ _ (.tup ds) _
  simp only [Shr]
  exact ⟨p, vs, rfl, SqT.of upd_same, ShrL.mono (GLe.frz (R.Fnone hp)) _ _ s⟩
theorem new_lst {m : Bool} {g : G} {H : Hp} {O : Sto} {σ : L2.St} {ds : List D} {vs : List V} {Q : VK} (R : RepO C g H O) (s : ShrL C.K g ds vs) (h : Post C W σ g H (mkL m ds O) Q) {p : Addr} (hp : H p = none) : Q (.ref p) (upd H p (.lst vs)) := by
  cases m with
  | false =>
    refine h _ (g.frz p (.lst vs)) _ (Ext.freeze R hp) (R.frz hp) ?_
    show Shr _ _ (.lst ds) _
    simp only [Shr]
    exact ⟨p, vs, rfl, upd_same, ShrL.mono (GLe.frz (R.Fnone hp)) _ _ s⟩
  | true =>
    have hk : ∀ a o, H a = some o → upd H p (.lst vs) a = some o := fun a o e => by rw [upd_ne (ne_of_none e hp)]; exact e
    refine h _ (g.add p) _ (Ext.add R hp hk) (R.add hp hk ⟨vs, upd_same, ShrL.mono GLe.add _ _ s⟩) ?_
    show Shr _ _ (.ob O.length) _
    simp only [Shr]
    rw [← R.n, G.add_at]
    exact ⟨rfl, Nat.lt_succ_self _⟩
def tupE (f : Rho → Sto → Res (List D)) : DE0 := fun r O => (f r O).bind fun ds O1 => if ds.length ≤ sizeLine then .ok (.tup ds) O1 else .bad
def lstE (m : Bool) (f : Rho → Sto → Res (List D)) : DE0 := fun r O => (f r O).bind fun ds O1 => if ds.length ≤ sizeLine then mkL m ds O1 else .bad
theorem d_tup {x1} (h : DA C X W es fas) : DE C X W (.Tuple es x1 pos) (tupE fas) :=
  let ⟨_, pa, sa⟩ := h.ex; ⟨_, pe_tup pa, fun g σ H r O R S Q h => sa.seq R S h fun ds O1 vs g1 H1 e1 R1 S1 s1 h1 => by
    split at h1
    · rename_i hl
      exact ⟨by rw [shrL_len s1]; exact hl, fun p hp => new_tup R1 s1 h1 hp⟩
    · exact h1.elim⟩
theorem d_lst (m : Bool) (h : DA C X W es fas) : DE C X W (.List es pos) (lstE m fas) :=
  let ⟨_, pa, sa⟩ := h.ex; ⟨_, pe_lst pa, fun g σ H r O R S Q h => sa.seq R S h fun ds O1 vs g1 H1 e1 R1 S1 s1 h1 => by
    split at h1
    · rename_i hl
      exact ⟨by rw [shrL_len s1]; exact hl, fun p hp => new_lst R1 s1 h1 hp⟩
    · exact h1.elim⟩
end
end Dn
set_option Elab.async false
set_option linter.all false
set_option maxRecDepth 100000
set_option maxHeartbeats 2000000
namespace Dn
open PySem PySem.Spec PyProof.Rows L2
section
variable {C : Ctx} {X : Cx} {W : WX}
/-! ### reading lists and tuples -/
/-- a list proper: frozen or a cell -/
def listS (d : D) (O : Sto) : Option (List D) := match d with
  | .lst ds => some ds
  | .ob l => match O[l]? with | some (.lst ds) => some ds | _ => none
  | _ => none
/-- any list that is read -/
def listR (d : D) (O : Sto) : Option (List D) := match d with
  | .scr ds => some ds
  | d => listS d O
def seqR (d : D) (O : Sto) : Option (List D) := match d with
  | .tup ds => some ds
  | d => listR d O
section
variable {g : G} {H : Hp} {O : Sto} {d : D} {v : V} {ds : List D}
theorem listS_of (R : RepO C g H O) (s : Shr C.K g d v) (h : listS d O = some ds) : ∃ a vs, v = .ref a ∧ H a = some (.lst vs) ∧ ShrL C.K g ds vs := by
  unfold listS at h
  split at h
  · cases h
    simp only [Shr] at s
    obtain ⟨a, vs, h1, h2, h3⟩ := s
    exact ⟨a, vs, h1, R.F _ _ h2, h3⟩
  · simp only [Shr] at s
    split at h
    · rename_i e
      cases h
      obtain ⟨vs, h1, h2⟩ := R.cell _ _ e
      exact ⟨_, vs, s.1, h1, h2⟩
    · cases h
  · cases h
theorem listR_of (R : RepO C g H O) (s : Shr C.K g d v) (h : listR d O = some ds) : ∃ a vs, v = .ref a ∧ SqL C.K H a vs ∧ ShrL C.K g ds vs := by
  unfold listR at h
  split at h
  · cases h
    simp only [Shr] at s
    obtain ⟨a, vs, h1, h2, h3⟩ := s
    exact ⟨a, vs, h1, ex_l R.F h2, h3⟩
  · obtain ⟨a, vs, h1, h2, h3⟩ := listS_of R s h
    exact ⟨a, vs, h1, SqL.of h2, h3⟩
theorem seqR_of (R : RepO C g H O) (s : Shr C.K g d v) (h : seqR d O = some ds) : ∃ a vs, v = .ref a ∧ (SqL C.K H a vs ∨ SqT C.K H a vs) ∧ ShrL C.K g ds vs := by
  unfold seqR at h
  split at h
  · cases h
    simp only [Shr] at s
    obtain ⟨a, vs, h1, h2, h3⟩ := s
    exact ⟨a, vs, h1, .inr (ex_t R.F h2), h3⟩
  · obtain ⟨a, vs, h1, h2, h3⟩ := listR_of R s h
    exact ⟨a, vs, h1, .inl h2, h3⟩
end
theorem shrL_append {K : PySem.W.Frag} {g : G} : ∀ {xs ys : List D} {vs ws : List V}, ShrL K g xs vs → ShrL K g ys ws → ShrL K g (xs ++ ys) (vs ++ ws)
  | [], ys, vs, ws, h, k => by simp only [ShrL] at h; subst h; exact k
  | x :: xs, ys, vs, ws, h, k => by
    simp only [ShrL] at h
    obtain ⟨v, r, rfl, h2, h3⟩ := h
    simp only [List.cons_append, ShrL]
    exact ⟨v, r ++ ws, rfl, h2, shrL_append h3 k⟩
theorem shrL_get {K : PySem.W.Frag} {g : G} : ∀ {xs : List D} {vs : List V} {i : Nat} {d : D}, ShrL K g xs vs → xs[i]? = some d → ∃ v, vs[i]? = some v ∧ Shr K g d v
  | [], vs, i, d, h, e => by simp at e
  | x :: xs, vs, 0, d, h, e => by
    simp only [ShrL] at h
    obtain ⟨v, r, rfl, h2, h3⟩ := h
    simp at e; subst e
    exact ⟨v, rfl, h2⟩
  | x :: xs, vs, i + 1, d, h, e => by
    simp only [ShrL] at h
    obtain ⟨v, r, rfl, h2, h3⟩ := h
    obtain ⟨w, q1, q2⟩ := shrL_get (i := i) h3 (by simpa using e)
    exact ⟨w, by simpa using q1, q2⟩
theorem shrL_drop {K : PySem.W.Frag} {g : G} : ∀ {xs : List D} {vs : List V} (n : Nat), ShrL K g xs vs → ShrL K g (xs.drop n) (vs.drop n)
  | xs, vs, 0, h => h
  | [], vs, n + 1, h => by simp only [ShrL] at h; subst h; simp [ShrL]
  | x :: xs, vs, n + 1, h => by
    simp only [ShrL] at h
    obtain ⟨v, r, rfl, h2, h3⟩ := h
    exact shrL_drop n h3
theorem shrL_take {K : PySem.W.Frag} {g : G} : ∀ {xs : List D} {vs : List V} (n : Nat), ShrL K g xs vs → ShrL K g (xs.take n) (vs.take n)
  | xs, vs, 0, h => by simp [ShrL]
  | [], vs, n + 1, h => by simp only [ShrL] at h; subst h; simp [ShrL]
  | x :: xs, vs, n + 1, h => by
    simp only [ShrL] at h
    obtain ⟨v, r, rfl, h2, h3⟩ := h
    simp only [List.take_succ_cons, ShrL]
    exact ⟨v, r.take n, rfl, h2, shrL_take n h3⟩
theorem shrL_set {K : PySem.W.Frag} {g : G} {d : D} {v : V} (s : Shr K g d v) : ∀ {xs : List D} {vs : List V} (n : Nat), ShrL K g xs vs → ShrL K g (xs.set n d) (vs.set n v)
  | [], vs, n, h => by simp only [ShrL] at h; subst h; simp [ShrL]
  | x :: xs, vs, 0, h => by
    simp only [ShrL] at h
    obtain ⟨w, r, rfl, h2, h3⟩ := h
    simp only [List.set_cons_zero, ShrL]
    exact ⟨v, r, rfl, s, h3⟩
  | x :: xs, vs, n + 1, h => by
    simp only [ShrL] at h
    obtain ⟨w, r, rfl, h2, h3⟩ := h
    simp only [List.set_cons_succ, ShrL]
    exact ⟨w, r.set n v, rfl, h2, shrL_set s n h3⟩
theorem shrL_ints {K : PySem.W.Frag} {g : G} : ∀ (ns : List Int), ShrL K g (ns.map D.int) (ns.map V.int)
  | [] => by simp [ShrL]
  | n :: ns => by
    simp only [List.map_cons, ShrL]
    exact ⟨_, _, rfl, rfl, shrL_ints ns⟩
theorem shrL_mem {K : PySem.W.Frag} {g : G} {xs : List D} {vs : List V} (h : ShrL K g xs vs) {P : D → Prop} {Q : V → Prop} (c : ∀ d v, d ∈ xs → Shr K g d v → P d → Q v) (a : ∀ d ∈ xs, P d) : ∀ v ∈ vs, Q v := by
  induction xs generalizing vs with
  | nil => simp only [ShrL] at h; subst h; intro v hv; cases hv
  | cons x xs ih =>
    simp only [ShrL] at h
    obtain ⟨w, r, rfl, h2, h3⟩ := h
    intro v hv
    rcases List.mem_cons.mp hv with rfl | hv
    · exact c x _ List.mem_cons_self h2 (a x List.mem_cons_self)
    · exact ih h3 (fun d v m => c d v (List.mem_cons_of_mem _ m)) (fun d m => a d (List.mem_cons_of_mem _ m)) v hv
theorem str_app (x y : List Nat) : (⟨x.toArray⟩ : Str) ++ (⟨y.toArray⟩ : Str) = ⟨(x ++ y).toArray⟩ := by
  apply TL.ext_tl
  rw [TL.tl_append]
theorem PE.or {e : Expr} {t t' : TE} (h : PE X e t) (h' : PE X e t') : PE X e (fun σ H Q => t σ H Q ∨ t' σ H Q) :=
  ⟨fun pins s σ H Q I q => q.elim (h.run pins s σ H Q I) (h'.run pins s σ H Q I)⟩
/-! ### + -/
def addD (m : Bool) : O2 := fun a b O => match a, b with
  | .int i, .int j => .ok (.int (i + j)) O
  | .str x, .str y => if x.length + y.length ≤ sizeLine then .ok (.str (x ++ y)) O else .bad
  | .tup xs, .tup ys => if xs.length + ys.length ≤ sizeLine then .ok (.tup (xs ++ ys)) O else .bad
  | a, b => match listS a O, listS b O with
    | some xs, some ys => if xs.length + ys.length ≤ sizeLine then mkL m (xs ++ ys) O else .bad
    | _, _ => .bad
def rAddD (K : PySem.W.Frag) : R2 := fun x y H Q => (rI0 (fun i j => .int (i + j))) x y H Q ∨ (∃ i j, x = .str i ∧ y = .str j ∧ i.length + j.length ≤ sizeLine ∧ Q (.str (i ++ j)) H) ∨ rCatA K x y H Q ∨ rCat x y H Q
theorem op_addD : OpR X (binaryOp .Add) (rAddD X.K) := op_add.or (op_add_str.or (op_catA.or op_cat))
theorem s_add (m : Bool) : Sat2 C W (rAddD C.K) (addD m) := by
  intro g H O R a b x y sx sy σ Q h
  unfold addD at h
  split at h
  · cases sx; cases sy
    exact .inl ⟨_, _, rfl, rfl, Post.fin R rfl h⟩
  · cases sx; cases sy
    split at h
    · rename_i hl
      refine .inr (.inl ⟨_, _, rfl, rfl, by rw [strlen, strlen]; exact hl, ?_⟩)
      refine Post.fin (v := V.str _) R ?_ h
      show V.str _ = sV _
      rw [str_app]; rfl
    · exact h.elim
  · rename_i xs ys
    split at h
    · rename_i hl
      simp only [Shr] at sx sy
      obtain ⟨a, vs, rfl, a2, a3⟩ := sx
      obtain ⟨b, ws, rfl, b2, b3⟩ := sy
      have e1 := shrL_len a3
      have e2 := shrL_len b3
      refine .inr (.inr (.inl ⟨a, b, vs, ws, rfl, rfl, ex_t R.F a2, ex_t R.F b2, by omega, fun z => ?_, fun z1 z2 => ?_, fun z1 z2 p hp => ?_⟩))
      · subst z
        have : xs = [] := List.eq_nil_of_length_eq_zero (by simpa using e1.symm)
        subst this
        refine Post.fin (v := V.ref b) R ?_ h
        show Shr _ _ (.tup ys) _
        simp only [Shr]
        exact ⟨b, ws, rfl, b2, b3⟩
      · subst z2
        have : ys = [] := List.eq_nil_of_length_eq_zero (by simpa using e2.symm)
        subst this
        rw [List.append_nil] at h
        refine Post.fin (v := V.ref a) R ?_ h
        show Shr _ _ (.tup xs) _
        simp only [Shr]
        exact ⟨a, vs, rfl, a2, a3⟩
      · exact new_tup R (shrL_append a3 b3) h hp
    · exact h.elim
  · split at h
    · rename_i xs ys h1 h2
      split at h
      · rename_i hl
        obtain ⟨a, vs, rfl, a2, a3⟩ := listS_of R sx h1
        obtain ⟨b, ws, rfl, b2, b3⟩ := listS_of R sy h2
        have e1 := shrL_len a3
        have e2 := shrL_len b3
        exact .inr (.inr (.inr ⟨a, b, vs, ws, rfl, rfl, a2, b2, by omega, fun p hp => new_lst R (shrL_append a3 b3) h hp⟩))
      · exact h.elim
    · exact h.elim
/-! ### the other operators on ints -/
def subD : O2 := fun a b O => match a, b with | .int i, .int j => .ok (.int (i - j)) O | _, _ => .bad
def modD : O2 := fun a b O => match a, b with | .int i, .int j => if 0 < j then .ok (.int (i % j)) O else .bad | _, _ => .bad
def fdivD : O2 := fun a b O => match a, b with | .int i, .int j => if 0 < j ∧ j < 1073741824 then .ok (.int (i / j)) O else .bad | _, _ => .bad
def negD : O1 := fun a O => match a with | .int i => .ok (.int (-i)) O | _ => .bad
theorem s_sub : Sat2 C W (rI0 fun i j => .int (i - j)) subD := by
  intro g H O R a b x y sx sy σ Q h
  unfold subD at h
  split at h
  · cases sx; cases sy; exact ⟨_, _, rfl, rfl, Post.fin R rfl h⟩
  · exact h.elim
theorem s_mod : Sat2 C W (rI (fun _ j => 0 < j) fun i j => .int (i % j)) modD := by
  intro g H O R a b x y sx sy σ Q h
  unfold modD at h
  split at h
  · cases sx; cases sy
    split at h
    · rename_i hj; exact ⟨_, _, rfl, rfl, hj, Post.fin R rfl h⟩
    · exact h.elim
  · exact h.elim
theorem s_fdiv : Sat2 C W (rI CDiv fun i j => .int (i / j)) fdivD := by
  intro g H O R a b x y sx sy σ Q h
  unfold fdivD at h
  split at h
  · cases sx; cases sy
    split at h
    · rename_i hj; exact ⟨_, _, rfl, rfl, hj, Post.fin R rfl h⟩
    · exact h.elim
  · exact h.elim
theorem s_neg : Sat1 C W (rU fun i => .int (-i)) negD := by
  intro g H O R a x sx σ Q h
  unfold negD at h
  split at h
  · cases sx; exact ⟨_, rfl, Post.fin R rfl h⟩
  · exact h.elim
/-- ints -/
def cmpI (p : Int → Int → Bool) : O2 := fun a b O => match a, b with | .int i, .int j => .ok (.bl (p i j)) O | _, _ => .bad
def ltD : O2 := cmpI fun i j => decide (i < j)
def leD : O2 := cmpI fun i j => decide (i ≤ j)
def gtD : O2 := cmpI fun i j => decide (j < i)
def geD : O2 := cmpI fun i j => decide (j ≤ i)
theorem s_cmpI (p : Int → Int → Bool) : Sat2 C W (rI0 fun i j => .bl (p i j)) (cmpI p) := by
  intro g H O R a b x y sx sy σ Q h
  unfold cmpI at h
  split at h
  · cases sx; cases sy; exact ⟨_, _, rfl, rfl, Post.fin R rfl h⟩
  · exact h.elim
theorem s_lt : Sat2 C W (rI0 fun i j => .bl (decide (i < j))) ltD := s_cmpI _
theorem s_le : Sat2 C W (rI0 fun i j => .bl (decide (i ≤ j))) leD := s_cmpI _
theorem s_gt : Sat2 C W (rI0 fun i j => .bl (decide (j < i))) gtD := s_cmpI _
theorem s_ge : Sat2 C W (rI0 fun i j => .bl (decide (j ≤ i))) geD := s_cmpI _
/-! ### is None -/
def isND (d : D) : Bool := match d with | .non => true | _ => false
def isNoneD : O2 := fun a b O => match b with | .non => .ok (.bl (isND a)) O | _ => .bad
def notNoneD : O2 := fun a b O => match b with | .non => .ok (.bl (!isND a)) O | _ => .bad
theorem isN_of {K : PySem.W.Frag} {g : G} {d : D} {v : V} (s : Shr K g d v) : decide (v = .non) = isND d := by
  cases d <;> simp only [Shr] at s <;> first
    | (subst s; rfl)
    | (obtain ⟨a, vs, rfl, _⟩ := s; rfl)
    | (obtain ⟨rfl, _⟩ := s; rfl)
theorem s_isN : Sat2 C W (fun x y H Q => y = .non ∧ Q (.bl (decide (x = .non))) H) isNoneD := by
  intro g H O R a b x y sx sy σ Q h
  unfold isNoneD at h
  split at h
  · cases sy; exact ⟨rfl, Post.fin R (by rw [isN_of sx]; rfl) h⟩
  · exact h.elim
theorem s_notN : Sat2 C W (fun x y H Q => y = .non ∧ Q (.bl (!decide (x = .non))) H) notNoneD := by
  intro g H O R a b x y sx sy σ Q h
  unfold notNoneD at h
  split at h
  · cases sy; exact ⟨rfl, Post.fin R (by rw [isN_of sx]; rfl) h⟩
  · exact h.elim
/-! ### == of data -/
mutual
/-- no thing within -/
def pure' : D → Bool
  | .ob _ => false
  | .tup ds => pureL ds
  | .lst ds => pureL ds
  | .scr _ => false
  | _ => true
def pureL : List D → Bool
  | [] => true
  | d :: ds => pure' d && pureL ds
end
mutual
def dep : D → Nat
  | .tup ds => depL ds + 1
  | .lst ds => depL ds + 1
  | .scr ds => depL ds + 1
  | _ => 0
def depL : List D → Nat
  | [] => 0
  | d :: ds => max (dep d) (depL ds)
end
mutual
def toPy : D → PyData
  | .non => .none
  | .bl b => .bool b
  | .int i => .int i
  | .str x => .str ⟨x.toArray⟩
  | .tup ds => .tuple (toPyL ds)
  | .lst ds => .list (toPyL ds)
  | .scr ds => .list (toPyL ds)
  | .ob _ => .none
def toPyL : List D → List PyData
  | [] => []
  | d :: ds => toPy d :: toPyL ds
end
mutual
def eqv : D → D → Bool
  | .non, .non => true
  | .bl a, .bl b => a == b
  | .bl a, .int j => (if a then 1 else 0) == j
  | .int i, .bl b => i == (if b then 1 else 0)
  | .int i, .int j => i == j
  | .str x, .str y => x == y
  | .tup xs, .tup ys => eqvL xs ys
  | .lst xs, .lst ys => eqvL xs ys
  | _, _ => false
def eqvL : List D → List D → Bool
  | [], [] => true
  | x :: xs, y :: ys => eqv x y && eqvL xs ys
  | _, _ => false
end
theorem beq_str (x y : List Nat) : ((⟨x.toArray⟩ : Str) == ⟨y.toArray⟩) = (x == y) := by
  by_cases e : x = y
  · subst e; simp
  · have : ¬ (⟨x.toArray⟩ : Str) = ⟨y.toArray⟩ := fun z => e (by injection z with z; simpa using z)
    rw [beq_eq_false_iff_ne.mpr this, beq_eq_false_iff_ne.mpr e]
mutual
theorem eqv_py : ∀ (a b : D), pure' a = true → pure' b = true → PyData.eqv (toPy a) (toPy b) = eqv a b
  | .non, b, _, _ => by cases b <;> simp_all [toPy, PyData.eqv, eqv, pure']
  | .bl _, b, _, _ => by cases b <;> simp_all [toPy, PyData.eqv, eqv, pure']
  | .int _, b, _, _ => by cases b <;> simp_all [toPy, PyData.eqv, eqv, pure']
  | .str x, b, _, _ => by
    cases b <;> simp_all [toPy, PyData.eqv, eqv, pure']
    rename_i y; exact beq_str x y
  | .tup xs, b, h, k => by
    cases b with
    | tup ys =>
      simp only [toPy, PyData.eqv, eqv]
      simp only [pure'] at h k
      exact eqvL_py xs ys h k
    | _ => simp_all [toPy, PyData.eqv, eqv, pure']
  | .lst xs, b, h, k => by
    cases b with
    | lst ys =>
      simp only [toPy, PyData.eqv, eqv]
      simp only [pure'] at h k
      exact eqvL_py xs ys h k
    | _ => simp_all [toPy, PyData.eqv, eqv, pure']
  | .scr _, _, h, _ => by simp [pure'] at h
  | .ob _, _, h, _ => by simp [pure'] at h
theorem eqvL_py : ∀ (a b : List D), pureL a = true → pureL b = true → PyData.eqvAll (toPyL a) (toPyL b) = eqvL a b
  | [], [], _, _ => by simp [toPyL, PyData.eqvAll, eqvL]
  | [], _ :: _, _, _ => by simp [toPyL, PyData.eqvAll, eqvL]
  | _ :: _, [], _, _ => by simp [toPyL, PyData.eqvAll, eqvL]
  | x :: xs, y :: ys, h, k => by
    simp only [pureL, Bool.and_eq_true] at h k
    simp only [toPyL, PyData.eqvAll, eqvL]
    rw [eqv_py x y h.1 k.1, eqvL_py xs ys h.2 k.2]
end
mutual
theorem dep_py : ∀ d : D, (toPy d).depth = dep d
  | .non => by simp [toPy, PyData.depth, dep]
  | .bl _ => by simp [toPy, PyData.depth, dep]
  | .int _ => by simp [toPy, PyData.depth, dep]
  | .str _ => by simp [toPy, PyData.depth, dep]
  | .ob _ => by simp [toPy, PyData.depth, dep]
  | .tup ds => by simp [toPy, PyData.depth, dep, depL_py ds]
  | .lst ds => by simp [toPy, PyData.depth, dep, depL_py ds]
  | .scr ds => by simp [toPy, PyData.depth, dep, depL_py ds]
theorem depL_py : ∀ ds : List D, PyData.depthAll (toPyL ds) = depL ds
  | [] => by simp [toPyL, PyData.depthAll, depL]
  | d :: ds => by simp [toPyL, PyData.depthAll, depL, dep_py d, depL_py ds]
end
mutual
theorem dp_of {K : PySem.W.Frag} {g : G} {H : Hp} (F : ∀ a o, g.F a = some o → H a = some o) : ∀ (d : D) (v : V), pure' d = true → Shr K g d v → Dp K H v (toPy d)
  | .non, _, _, s => by cases s; exact .non
  | .bl _, _, _, s => by cases s; exact .bl _
  | .int _, _, _, s => by cases s; exact .int _
  | .str _, _, _, s => by cases s; exact .str _
  | .tup ds, v, h, s => by
    simp only [Shr] at s
    obtain ⟨a, vs, rfl, h2, h3⟩ := s
    simp only [toPy]
    exact .tup (ex_t F h2) (dpL_of F ds vs (by simpa [pure'] using h) h3)
  | .lst ds, v, h, s => by
    simp only [Shr] at s
    obtain ⟨a, vs, rfl, h2, h3⟩ := s
    simp only [toPy]
    exact .lst (SqL.of (F _ _ h2)) (dpL_of F ds vs (by simpa [pure'] using h) h3)
  | .scr _, _, h, _ => by simp [pure'] at h
  | .ob _, _, h, _ => by simp [pure'] at h
theorem dpL_of {K : PySem.W.Frag} {g : G} {H : Hp} (F : ∀ a o, g.F a = some o → H a = some o) : ∀ (ds : List D) (vs : List V), pureL ds = true → ShrL K g ds vs → DpAll K H vs (toPyL ds)
  | [], _, _, s => by simp only [ShrL] at s; subst s; simp only [toPyL]; exact .nil
  | d :: ds, _, h, s => by
    simp only [ShrL] at s
    obtain ⟨v, r, rfl, h2, h3⟩ := s
    simp only [pureL, Bool.and_eq_true] at h
    simp only [toPyL]
    exact .cons (dp_of F d v h.1 h2) (dpL_of F ds r h.2 h3)
end
def okD (d : D) : Bool := pure' d && ((toPy d).canLay0 && decide (dep d ≤ 64))
/-- one cell of a list read as a list -/
def unob (d : D) (O : Sto) : D := match d with
  | .ob l => match O[l]? with | some (.lst ds) => .lst ds | _ => d
  | d => d
/-- pairs of scalars that need no look -/
def quick : D → D → Bool
  | .non, .non => true | .non, .int _ => true | .int _, .non => true | .non, .bl _ => true | .bl _, .non => true | .non, .str _ => true | .str _, .non => true
  | .int _, .int _ => true | .bl _, .bl _ => true | .str _, .str _ => true
  | .int _, .str _ => true | .str _, .int _ => true | .bl _, .str _ => true | .str _, .bl _ => true
  | _, _ => false
def eqD : O2 := fun a b O => if quick a b then .ok (.bl (eqv a b)) O else if okD (unob a O) && okD (unob b O) then .ok (.bl (eqv (unob a O) (unob b O))) O else .bad
def neD : O2 := fun a b O => if quick a b then .ok (.bl (!eqv a b)) O else if okD (unob a O) && okD (unob b O) then .ok (.bl (!eqv (unob a O) (unob b O))) O else .bad
theorem quick_of {K : PySem.W.Frag} {g : G} {a b : D} {x y : V} (sx : Shr K g a x) (sy : Shr K g b y) (h : quick a b = true) : scal x y = true ∧ decide (x = y) = eqv a b := by
  cases a <;> cases b <;> first
    | (exact absurd (show false = true from h) Bool.false_ne_true)
    | skip
  all_goals (simp only [Shr] at sx sy; subst sx; subst sy)
  all_goals first
    | (refine ⟨rfl, ?_⟩; simp [eqv, sV]; done)
    | skip
  all_goals (refine ⟨rfl, ?_⟩; rw [Bool.eq_iff_iff]; simp [eqv, sV])
theorem shaped_py {d : D} (h : okD d = true) : SeqAt.shaped (toPy d) = true := by
  simp only [okD, Bool.and_eq_true, decide_eq_true_eq] at h
  unfold SeqAt.shaped
  simp [dep_py, h.2]
theorem dp_unob {g : G} {H : Hp} {O : Sto} (R : RepO C g H O) {d : D} {v : V} (s : Shr C.K g d v) (h : okD (unob d O) = true) : Dp C.K H v (toPy (unob d O)) := by
  have hp : pure' (unob d O) = true := by
    simp only [okD, Bool.and_eq_true] at h
    exact h.1
  cases d with
  | ob l =>
    unfold unob at hp ⊢
    simp only at hp ⊢
    split at hp
    · rename_i ds e
      obtain ⟨vs, h1, h2⟩ := R.cell l _ e
      simp only [Shr] at s
      obtain ⟨rfl, _⟩ := s
      simp only [e, toPy]
      exact .lst (SqL.of h1) (dpL_of R.F ds vs (by simpa [pure'] using hp) h2)
    · simp [pure'] at hp
  | _ => exact dp_of R.F _ _ hp s
def rEqA (K : PySem.W.Frag) : R2 := fun x y H Q => rEq x y H Q ∨ rEqD K x y H Q
def rNeA (K : PySem.W.Frag) : R2 := fun x y H Q => rNe x y H Q ∨ rNeD K x y H Q
theorem op_eqA (hu : X.A.units + 64 < cLine) : OpR X (compareOp .Eq) (rEqA X.K) := op_eq.or (op_eqD hu)
theorem op_neA (hu : X.A.units + 64 < cLine) : OpR X (compareOp .NotEq) (rNeA X.K) := op_ne.or (op_neD hu)
theorem s_eq : Sat2 C W (rEqA C.K) eqD := by
  intro g H O R a b x y sx sy σ Q h
  unfold eqD at h
  split at h
  · rename_i hq
    obtain ⟨h1, h2⟩ := quick_of sx sy hq
    exact .inl ⟨h1, Post.fin R (by rw [h2]; rfl) h⟩
  split at h
  · rename_i hc
    simp only [Bool.and_eq_true] at hc
    refine .inr ⟨_, _, dp_unob R sx hc.1, dp_unob R sy hc.2, shaped_py hc.1, shaped_py hc.2, ?_⟩
    have p1 := hc.1
    have p2 := hc.2
    simp only [okD, Bool.and_eq_true] at p1 p2
    rw [eqv_py _ _ p1.1 p2.1]
    exact Post.fin R rfl h
  · exact h.elim
theorem s_ne : Sat2 C W (rNeA C.K) neD := by
  intro g H O R a b x y sx sy σ Q h
  unfold neD at h
  split at h
  · rename_i hq
    obtain ⟨h1, h2⟩ := quick_of sx sy hq
    exact .inl ⟨h1, Post.fin R (by rw [h2]; rfl) h⟩
  split at h
  · rename_i hc
    simp only [Bool.and_eq_true] at hc
    refine .inr ⟨_, _, dp_unob R sx hc.1, dp_unob R sy hc.2, shaped_py hc.1, shaped_py hc.2, ?_⟩
    have p1 := hc.1
    have p2 := hc.2
    simp only [okD, Bool.and_eq_true] at p1 p2
    rw [eqv_py _ _ p1.1 p2.1]
    exact Post.fin R rfl h
  · exact h.elim
/-! ### keys of dicts -/
def keyD (d : D) : Option DKey := match d with | .int i => some (.inl i) | .str x => some (.inr x) | _ => none
def getK (kvs : List (DKey × D)) (k : DKey) : Option D := (kvs.find? fun p => decide (p.1 = k)).map (·.2)
def putD (kvs : List (DKey × D)) (k : DKey) (d : D) : List (DKey × D) := if kvs.any fun p => decide (p.1 = k) then kvs.map fun p => if p.1 = k then (p.1, d) else p else kvs ++ [(k, d)]
def delK (kvs : List (DKey × D)) (k : DKey) : List (DKey × D) := kvs.filter fun p => decide (p.1 ≠ k)
theorem kD_inj {a b : DKey} (h : kD a = kD b) : a = b := by
  cases a <;> cases b <;> simp_all [kD]
theorem kD_dec (a b : DKey) : decide (kD a = kD b) = decide (a = b) := by
  by_cases e : a = b
  · subst e; simp
  · have : ¬ kD a = kD b := fun z => e (kD_inj z)
    simp [e, this]
theorem keyD_of {K : PySem.W.Frag} {g : G} {d : D} {v : V} {k : DKey} (s : Shr K g d v) (h : keyD d = some k) : v = kV (kD k) := by
  unfold keyD at h
  split at h
  · cases h; cases s; rfl
  · cases h; cases s; rfl
  · cases h
theorem shrK_get {K : PySem.W.Frag} {g : G} {k : DKey} : ∀ {ds : List (DKey × D)} {vs : List (Key × V)}, ShrK K g ds vs →
    (∀ d, getK ds k = some d → ∃ v, valV vs (kD k) = some v ∧ Shr K g d v) ∧ (getK ds k = none → valV vs (kD k) = none)
  | [], vs, h => by
    simp only [ShrK] at h; subst h
    exact ⟨fun d e => by simp [getK] at e, fun _ => rfl⟩
  | p :: ds, vs, h => by
    simp only [ShrK] at h
    obtain ⟨v, r, rfl, h2, h3⟩ := h
    by_cases e : p.1 = k
    · refine ⟨fun d q => ?_, fun q => ?_⟩
      · simp [getK, List.find?_cons, e] at q
        subst q
        exact ⟨v, by rw [valV_pos (by rw [e])], h2⟩
      · simp [getK, List.find?_cons, e] at q
    · have ih := shrK_get (k := k) h3
      have e' : ¬ kD p.1 = kD k := fun z => e (kD_inj z)
      refine ⟨fun d q => ?_, fun q => ?_⟩
      · rw [valV_neg e']
        exact ih.1 d (by simpa [getK, List.find?_cons, e] using q)
      · rw [valV_neg e']
        exact ih.2 (by simpa [getK, List.find?_cons, e] using q)
theorem shrK_any {K : PySem.W.Frag} {g : G} {k : DKey} : ∀ {ds : List (DKey × D)} {vs : List (Key × V)}, ShrK K g ds vs → (vs.any fun p => decide (p.1 = kD k)) = ds.any fun p => decide (p.1 = k)
  | [], vs, h => by simp only [ShrK] at h; subst h; rfl
  | p :: ds, vs, h => by
    simp only [ShrK] at h
    obtain ⟨v, r, rfl, h2, h3⟩ := h
    simp only [List.any_cons, shrK_any h3, kD_dec]
theorem shrK_put {K : PySem.W.Frag} {g : G} {k : DKey} {d : D} {v : V} (s : Shr K g d v) {ds : List (DKey × D)} {vs : List (Key × V)} (h : ShrK K g ds vs) : ShrK K g (putD ds k d) (putK vs (kD k) v) := by
  unfold putD putK
  rw [shrK_any h]
  split
  · rename_i hno; clear hno
    induction ds generalizing vs with
    | nil => simp only [ShrK] at h; subst h; simp [ShrK]
    | cons p ds ih =>
      simp only [ShrK] at h
      obtain ⟨w, r, rfl, h2, h3⟩ := h
      simp only [List.map_cons]
      by_cases e : p.1 = k
      · rw [if_pos e, if_pos (show (kD p.1, w).1 = kD k from by rw [e])]
        simp only [ShrK]
        exact ⟨v, _, rfl, s, ih h3⟩
      · rw [if_neg e, if_neg (show ¬ (kD p.1, w).1 = kD k from fun z => e (kD_inj z))]
        simp only [ShrK]
        exact ⟨w, _, rfl, h2, ih h3⟩
  · rename_i hno; clear hno
    induction ds generalizing vs with
    | nil =>
      simp only [ShrK] at h; subst h
      simp only [List.nil_append, ShrK]
      exact ⟨v, [], rfl, s, rfl⟩
    | cons p ds ih =>
      simp only [ShrK] at h
      obtain ⟨w, r, rfl, h2, h3⟩ := h
      simp only [List.cons_append, ShrK]
      exact ⟨w, _, rfl, h2, ih h3⟩
theorem shrK_del {K : PySem.W.Frag} {g : G} {k : DKey} : ∀ {ds : List (DKey × D)} {vs : List (Key × V)}, ShrK K g ds vs → ShrK K g (delK ds k) (dropK vs (kD k))
  | [], vs, h => by simp only [ShrK] at h; subst h; simp [delK, dropK, ShrK]
  | p :: ds, vs, h => by
    simp only [ShrK] at h
    obtain ⟨w, r, rfl, h2, h3⟩ := h
    have ih := shrK_del (k := k) h3
    unfold delK dropK at ih ⊢
    by_cases e : p.1 = k
    · rw [List.filter_cons_of_neg (by simp [e]), List.filter_cons_of_neg (by simp [e])]
      exact ih
    · have e' : ¬ kD p.1 = kD k := fun z => e (kD_inj z)
      rw [List.filter_cons_of_pos (by simpa using e), List.filter_cons_of_pos (by simpa using e')]
      simp only [ShrK]
      exact ⟨w, _, rfl, h2, ih⟩
theorem shrK_len {K : PySem.W.Frag} {g : G} : ∀ {ds : List (DKey × D)} {vs : List (Key × V)}, ShrK K g ds vs → vs.length = ds.length
  | [], vs, h => by simp only [ShrK] at h; subst h; rfl
  | p :: ds, vs, h => by
    simp only [ShrK] at h
    obtain ⟨w, r, rfl, h2, h3⟩ := h
    simp [shrK_len h3]
def dicOf (d : D) (O : Sto) : Option (Nat × List (DKey × D)) := match d with
  | .ob l => match O[l]? with | some (.dic kvs) => some (l, kvs) | _ => none
  | _ => none
theorem dicOf_of {g : G} {H : Hp} {O : Sto} {d : D} {v : V} {l : Nat} {kvs : List (DKey × D)} (R : RepO C g H O) (s : Shr C.K g d v) (h : dicOf d O = some (l, kvs)) :
    v = .ref (g.θ l) ∧ l < g.n ∧ O[l]? = some (.dic kvs) ∧ ∃ vs, H (g.θ l) = some (.dK vs) ∧ ShrK C.K g kvs vs := by
  unfold dicOf at h
  split at h
  · split at h
    · rename_i e
      cases h
      simp only [Shr] at s
      exact ⟨s.1, s.2, e, R.cell _ _ e⟩
    · cases h
  · cases h
/-! ### in -/
def hasSub (x y : List Nat) : Bool := (List.range (y.length + 1 - x.length)).any fun i => (y.drop i).take x.length == x
def flatD : D → Bool
  | .non => true | .bl _ => true | .int _ => true | .str _ => true | _ => false
def inB (neg : Bool) : O2 := fun a b O => match a, b with
  | .str x, .str y => .ok (.bl (neg != (hasSub x y && decide (x.length ≤ y.length)))) O
  | a, b => match dicOf b O with
    | some (_, kvs) => match keyD a with | some k => .ok (.bl (neg != (getK kvs k).isSome)) O | none => .bad
    | none => match seqR b O with
      | some ds => if flatD a && ds.all flatD then .ok (.bl (neg != ds.any fun y => eqv y a)) O else .bad
      | none => .bad
end
end Dn
set_option Elab.async false
set_option linter.all false
set_option maxRecDepth 100000
set_option maxHeartbeats 2000000
namespace Dn
open PySem PySem.Spec PyProof.Rows L2
section
variable {C : Ctx} {X : Cx} {W : WX}
theorem tl_mk' (x : List Nat) : (⟨x.toArray⟩ : Str).cps.toList = x := rfl
theorem found_sub (x y : List Nat) : (!(Builtin.Str.occurrences ⟨y.toArray⟩ ⟨x.toArray⟩ 0 (⟨y.toArray⟩ : Str).length 1).isEmpty) = (hasSub x y && decide (x.length ≤ y.length)) := by
  rw [Bool.eq_iff_iff, StrLaws.found_iff]
  simp only [strlen, StrLaws.subAt_eq, tl_mk', hasSub, Bool.and_eq_true, List.any_eq_true, List.mem_range, decide_eq_true_eq]
  constructor
  · rintro ⟨i, h1, h2⟩
    exact ⟨⟨i, by omega, h2⟩, by omega⟩
  · rintro ⟨⟨i, h1, h2⟩, h3⟩
    exact ⟨i, by omega, h2⟩
def rInA (K : PySem.W.Frag) (neg : Bool) : R2 := fun x y H Q =>
  (∃ i j, x = .str i ∧ y = .str j ∧ Q (.bl (neg != (!(Builtin.Str.occurrences j i 0 j.length 1).isEmpty))) H) ∨ (∃ a o, y = .ref a ∧ DGet H a x o ∧ Q (.bl (neg != o.isSome)) H) ∨ rIn K neg x y H Q
theorem op_inA (hu : X.A.units + 1 < cLine) : OpR X (compareOp .In) (rInA X.K false) := by
  intro pins s σ H x y v u Q I rx ry h
  rcases h with ⟨i, j, h1, h2, h3⟩ | ⟨a, o, rfl, h2, h3⟩ | h
  · exact op_in_str pins s σ H x y v u Q I rx ry ⟨i, j, h1, h2, by simpa using h3⟩
  · cases ry
    exact d_in hu I h2 rx fun s3 I3 => ⟨.bl o.isSome, H, I3, rfl, by simpa using h3⟩
  · exact op_in_seq pins s σ H x y v u Q I rx ry h
theorem op_notInA (hu : X.A.units + 1 < cLine) : OpR X (compareOp .NotIn) (rInA X.K true) := by
  intro pins s σ H x y v u Q I rx ry h
  rcases h with ⟨i, j, h1, h2, h3⟩ | ⟨a, o, rfl, h2, h3⟩ | h
  · exact op_notin_str pins s σ H x y v u Q I rx ry ⟨i, j, h1, h2, by simpa using h3⟩
  · cases ry
    exact d_notIn hu I h2 rx fun s3 I3 => ⟨.bl (!o.isSome), H, I3, rfl, by simpa using h3⟩
  · exact op_notIn_seq pins s σ H x y v u Q I rx ry h
theorem flat_of {K : PySem.W.Frag} {g : G} {d : D} {v : V} (s : Shr K g d v) (h : flatD d = true) : flatV v = true := by
  cases d <;> simp_all [flatD, Shr, flatV, sV] <;> subst s <;> rfl
theorem eqv_flat {K : PySem.W.Frag} {g : G} {a b : D} {x y : V} (sx : Shr K g a x) (sy : Shr K g b y) (ha : flatD a = true) (hb : flatD b = true) : eqV x y = eqv a b := by
  cases a <;> simp [flatD] at ha <;> cases b <;> simp [flatD] at hb <;> simp only [Shr] at sx sy <;> subst sx <;> subst sy <;> first
    | rfl
    | (simp [eqV, eqv, sV, beq_str]; done)
    | (simp [eqV, eqv, sV]; exact beq_str _ _)
theorem any_flat {K : PySem.W.Frag} {g : G} {a : D} {x : V} (sx : Shr K g a x) (ha : flatD a = true) : ∀ {ds : List D} {vs : List V}, ShrL K g ds vs → ds.all flatD = true → vs.all flatV = true ∧ inV x vs = ds.any fun y => eqv y a
  | [], vs, h, _ => by simp only [ShrL] at h; subst h; exact ⟨rfl, rfl⟩
  | d :: ds, vs, h, k => by
    simp only [ShrL] at h
    obtain ⟨v, r, rfl, h2, h3⟩ := h
    simp only [List.all_cons, Bool.and_eq_true] at k
    obtain ⟨i1, i2⟩ := any_flat sx ha h3 k.2
    refine ⟨by simp [flat_of h2 k.1, i1], ?_⟩
    show (eqV v x || inV x r) = _
    rw [List.any_cons, i2, eqv_flat h2 sx k.1 ha]
theorem s_in (neg : Bool) : Sat2 C W (rInA C.K neg) (inB neg) := by
  intro g H O R a b x y sx sy σ Q h
  unfold inB at h
  split at h
  · cases sx; cases sy
    refine .inl ⟨_, _, rfl, rfl, ?_⟩
    rw [found_sub]
    exact Post.fin R rfl h
  · split at h
    · rename_i l kvs e
      obtain ⟨rfl, _, _, vs, h2, h3⟩ := dicOf_of R sy e
      split at h
      · rename_i k ek
        have := keyD_of sx ek
        subst this
        refine .inr (.inl ⟨_, _, rfl, DGet.k h2, ?_⟩)
        refine Post.fin R ?_ h
        have hk := shrK_get (k := k) h3
        cases q : getK kvs k with
        | none => rw [hk.2 q]; rfl
        | some d => obtain ⟨v, q1, _⟩ := hk.1 d q; rw [q1]; rfl
      · exact h.elim
    · split at h
      · rename_i ds e
        split at h
        · rename_i hf
          simp only [Bool.and_eq_true] at hf
          obtain ⟨p, vs, rfl, h2, h3⟩ := seqR_of R sy e
          obtain ⟨f1, f2⟩ := any_flat sx hf.1 h3 hf.2
          refine .inr (.inr ⟨p, vs, rfl, h2, flat_of sx hf.1, f1, ?_⟩)
          rw [f2]
          refine Post.fin R ?_ h
          cases neg
          · show V.bl _ = _; simp
          · show V.bl _ = _; simp
        · exact h.elim
      · exact h.elim
/-! ### subscripts -/
def ixNat (n : Nat) (i : Int) : Option Nat := ixN n i
def getI (ds : List D) (i : Int) : Option D := (ixN ds.length i).bind fun j => ds[j]?
def ixD : O2 := fun a b O => match a, b with
  | .str x, .int i => if x.length ≤ sizeLine then match (ixN x.length i).bind fun j => x[j]? with | some c => .ok (.str [c]) O | none => .bad else .bad
  | a, b => match dicOf a O with
    | some (_, kvs) => match keyD b with | some k => (match getK kvs k with | some d => .ok d O | none => .bad) | none => .bad
    | none => match seqR a O, b with
      | some ds, .int i => (match getI ds i with | some d => .ok d O | none => .bad)
      | _, _ => .bad
def rIxDic : R2 := fun x y H Q => ∃ a v, x = .ref a ∧ DGet H a y (some v) ∧ Q v H
theorem ix_dict (hu : X.A.units + 1 < cLine) : IxR X rIxDic := by
  intro value slice pins s σ H x y v u Q I rx ry h hs
  obtain ⟨a, z, rfl, g, q⟩ := h
  cases rx
  have hT := dict_typeIs I g
  unfold subscriptTail
  refine wpAny_bind ?_
  rw [getitemInPython_of_ne hT.not_modules]
  refine wpAny_bind (wpAny_specialOf hT PySem.F.slot_dict_getitem.lookup ?_)
  have fin : wpAny (model X.prog X.w) X.A (subscripted slice false (.ref a) u) (fun r s₃ => wpAny (model X.prog X.w) X.A (letTemporaryGo value (.ref a) r >>= fun _ => pure r) (EP X pins σ Q) X.xe s₃) X.xe s := by
    rw [hs]
    exact wpAny_operating (d_getItem hu I g ry fun w' s3 I3 rw' => wpAny_bind (wpAny_letTemporaryGo (wpAny_pure ⟨z, H, I3, rw', q⟩)))
  first
    | exact wpAny_pure (wpAny_bind fin)
    | exact wpAny_bind (wpAny_pure (wpAny_bind fin))
    | exact wpAny_bind fin
def rIxA (K : PySem.W.Frag) : R2 := fun x y H Q => rIx K x y H Q ∨ rIxDic x y H Q
theorem ix_all (hu : X.A.units + 1 < cLine) : IxR X (rIxA X.K) := ix_seq.or (ix_dict hu)
theorem s_ix : Sat2 C W (rIxA C.K) ixD := by
  intro g H O R a b x y sx sy σ Q h
  unfold ixD at h
  split at h
  · cases sx; cases sy
    split at h
    · rename_i hl
      split at h
      · rename_i c e
        refine .inl (.inr (.inr ⟨_, _, c, rfl, rfl, by rw [strlen]; exact hl, ?_, ?_⟩))
        · show (ixN (List.length _) _).bind _ = _
          exact e
        · exact Post.fin R rfl h
      · exact h.elim
    · exact h.elim
  · split at h
    · rename_i l kvs e
      obtain ⟨rfl, _, _, vs, h2, h3⟩ := dicOf_of R sx e
      split at h
      · rename_i k ek
        have := keyD_of sy ek
        subst this
        split at h
        · rename_i d ed
          obtain ⟨v, q1, q2⟩ := (shrK_get h3).1 d ed
          exact .inr ⟨_, v, rfl, by rw [← q1]; exact DGet.k h2, Post.fin R q2 h⟩
        · exact h.elim
      · exact h.elim
    · split at h
      · rename_i ds i e _
        split at h
        · rename_i d ed
          cases sy
          obtain ⟨p, vs, rfl, h2, h3⟩ := seqR_of R sx e
          have hlen := shrL_len h3
          obtain ⟨j, ej, ed⟩ : ∃ j, ixN ds.length i = some j ∧ ds[j]? = some d := by
            unfold getI at ed
            cases q : ixN ds.length i with
            | none => rw [q] at ed; cases ed
            | some j => rw [q] at ed; exact ⟨j, rfl, ed⟩
          obtain ⟨v, q1, q2⟩ := shrL_get h3 ed
          have hat : atI vs i = some v := by
            unfold atI
            rw [hlen, ej]
            exact q1
          rcases h2 with h2 | h2
          · exact .inl (.inl ⟨p, vs, i, v, rfl, rfl, h2, hat, Post.fin R q2 h⟩)
          · exact .inl (.inr (.inl ⟨p, vs, i, v, rfl, rfl, h2, hat, Post.fin R q2 h⟩))
        · exact h.elim
      · exact h.elim
variable {a b c e : Expr} {fa fb fc fe : DE0} {pos : Pos}
theorem d_ix (hK : X.K = C.K) (hu : X.A.units + 1 < cLine) (ha : DE C X W a fa) (hb : DE C X W b fb) (hs : PlainIx b := by exact fun _ _ => rfl) : DE C X W (.Subscript a b pos) (op2 ixD fa fb) :=
  let ⟨_, pa, sa⟩ := ha.ex; let ⟨_, pb, sb⟩ := hb.ex; ⟨_, pe_ix (ix_all hu) pa pb hs, sat_op (by rw [hK]; exact s_ix) sa sb⟩
/-! ### slices -/
instance : Rel (Option Int) (Option Int) := ⟨fun _ _ a b => a = b, fun _ h => h⟩
structure DO (C : Ctx) (X : Cx) (W : WX) (e : Option Expr) (f : Rho → Sto → Res (Option Int)) : Prop where
  ex : ∃ te, PO X e te ∧ Sat C W te f
def noP : Rho → Sto → Res (Option Int) := fun _ O => .ok none O
def asP (d : D) (O : Sto) : Res (Option Int) := match d with | .int i => .ok (some i) O | _ => .bad
def someP (f : DE0) : Rho → Sto → Res (Option Int) := fun r O => (f r O).bind asP
theorem o_none : DO C X W none noP := ⟨_, po_none, fun g σ H r O R S Q h => Post.fin R rfl h⟩
theorem o_some (h : DE C X W e fe) : DO C X W (some e) (someP fe) :=
  let ⟨_, p, s⟩ := h.ex; ⟨_, po_some p, fun g σ H r O R S Q h => s.seq R S h fun d O1 v g1 H1 e1 R1 S1 s1 h1 => by
    cases d with
    | int i => exact ⟨i, s1, Post.fin R1 rfl h1⟩
    | _ => exact h1.elim⟩
def cutD {α : Type} (xs : List α) (lo hi : Option Int) : List α := (xs.drop (HT.sIx xs.length 0 lo)).take (HT.sIx xs.length xs.length hi - HT.sIx xs.length 0 lo)
theorem shrL_cut {K : PySem.W.Frag} {g : G} {ds : List D} {vs : List V} (h : ShrL K g ds vs) (lo hi : Option Int) : ShrL K g (cutD ds lo hi) (cutV vs lo hi) := by
  unfold cutD cutV
  rw [shrL_len h]
  exact shrL_take _ (shrL_drop _ h)
def slD (m : Bool) (a : D) (lo hi : Option Int) (O : Sto) : ER := match a with
  | .str x => if x.length ≤ sizeLine then .ok (.str (cutD x lo hi)) O else .bad
  | .tup ds => .ok (.tup (cutD ds lo hi)) O
  | a => match listR a O with | some ds => mkL m (cutD ds lo hi) O | none => .bad
def slE (m : Bool) (f : DE0) (l h : Rho → Sto → Res (Option Int)) : DE0 := fun r O => (f r O).bind fun d O1 => (l r O1).bind fun lo O2 => (h r O2).bind fun hi O3 => slD m d lo hi O3
def rSlAll (K : PySem.W.Frag) : V → Option Int → Option Int → Hp → VK → Prop := fun x lo hi H Q => rSlL K x lo hi H Q ∨ rSlA K x lo hi H Q ∨ rSlS x lo hi H Q
theorem sl_all : SlR X (rSlAll X.K) := sl_list.or (sl_tupA.or sl_str)
theorem d_slice (m : Bool) (hK : X.K = C.K) {lo hi : Option Expr} {fl fh : Rho → Sto → Res (Option Int)} {p2 : Pos} (ha : DE C X W a fa) (hl : DO C X W lo fl) (hh : DO C X W hi fh) : DE C X W (.Subscript a (.Slice lo hi none p2) pos) (slE m fa fl fh) :=
  let ⟨_, pa, sa⟩ := ha.ex; let ⟨_, pl, sl⟩ := hl.ex; let ⟨_, ph, sh⟩ := hh.ex
  ⟨_, pe_slice sl_all pa pl ph, fun g σ H r O R S Q h => sa.seq R S h fun d O1 v g1 H1 e1 R1 S1 s1 h1 => sl.seq R1 S1 h1 fun lo O2 lo' g2 H2 e2 R2 S2 s2 h2 => sh.seq R2 S2 h2 fun hi O3 hi' g3 H3 e3 R3 S3 s3 h3 => by
    cases s2; cases s3
    have sd : Shr C.K g3 d v := Shr.mono (e2.le.trans e3.le) _ _ s1
    rw [hK]
    unfold slD at h3
    split at h3
    · cases sd
      split at h3
      · rename_i hl
        refine .inr (.inr ⟨_, rfl, by rw [strlen]; exact hl, ?_⟩)
        refine Post.fin (v := V.str _) R3 ?_ h3
        show V.str _ = sV _
        unfold cutS cutD
        rw [strlen]; rfl
      · exact h3.elim
    · rename_i ds
      simp only [Shr] at sd
      obtain ⟨p, vs, rfl, h4, h5⟩ := sd
      refine .inr (.inl ⟨p, vs, rfl, ex_t R3.F h4, fun z => ?_, fun z q hq => ?_⟩)
      · have e : cutD ds lo hi = ds := by
          unfold cutD
          rw [shrL_len h5] at z
          rw [z.1, z.2, List.drop_zero, Nat.sub_zero, List.take_length]
        rw [e] at h3
        refine Post.fin (v := V.ref p) R3 ?_ h3
        show Shr _ _ (.tup ds) _
        simp only [Shr]
        exact ⟨p, vs, rfl, h4, h5⟩
      · exact new_tup R3 (shrL_cut h5 lo hi) h3 hq
    · split at h3
      · rename_i ds e
        obtain ⟨p, vs, rfl, h4, h5⟩ := listR_of R3 sd e
        exact .inl ⟨p, vs, rfl, h4, fun q hq => new_lst R3 (shrL_cut h5 lo hi) h3 hq⟩
      · exact h3.elim⟩
/-! ### builtins by name, methods of builtin types -/
def SatC (C : Ctx) (W : WX) (r : List V → Hp → VK → Prop) (f : List D → Sto → ER) : Prop := ∀ g H O, RepO C g H O → ∀ ds vs, ShrL C.K g ds vs → ∀ σ Q, Post C W σ g H (f ds O) Q → r vs H Q
def callE (f : List D → Sto → ER) (fas : Rho → Sto → Res (List D)) : DE0 := fun r O => (fas r O).bind f
variable {x : Str} {p : Pos} {es : List Expr} {id T : String} {r : List V → Hp → VK → Prop} {fas : Rho → Sto → Res (List D)} {f : List D → Sto → ER}
theorem sat_call {t : TA} (hr : SatC C W r f) (sa : Sat C W t fas) : Sat C W (tCB r t) (callE f fas) := fun g σ H ρ O R S Q h =>
  sa.seq R S h fun ds O1 vs g1 H1 e1 R1 S1 s1 h1 => hr g1 H1 O1 R1 ds vs s1 σ Q h1
theorem d_callB (hc : CallR X (.builtin id) r) (hr : SatC C W r f) (hg : Gl X x) (hm : X.mg x = none) (hv : bootBuiltins x = some (.builtin id)) (ha : DA C X W (e :: es) fas) (hn : x ≠ "__name__" := by decide) (hdb : (x == ("__debug__" : Str)) = false := by decide)
    (he : starEach (e :: es) X.env = (false, eval e X.env) :: starEach es X.env := by rfl) (hpl : (backTo pos (starEach es X.env)).any (·.1) = false := by rfl) : DE C X W (.Call (.Name x p) (e :: es) [] pos) (callE f fas) :=
  let ⟨_, pa, sa⟩ := ha.ex; ⟨_, pe_callB hc hg hm hv pa hn hdb he hpl, sat_call hr sa⟩
theorem d_callTy (hc : CallR X (.type T) r) (hr : SatC C W r f) (hg : Gl X x) (hm : X.mg x = none) (hv : bootBuiltins x = some (.type T)) (ha : DA C X W (e :: es) fas) (hn : x ≠ "__name__" := by decide) (hdb : (x == ("__debug__" : Str)) = false := by decide)
    (he : starEach (e :: es) X.env = (false, eval e X.env) :: starEach es X.env := by rfl) (hpl : (backTo pos (starEach es X.env)).any (·.1) = false := by rfl) : DE C X W (.Call (.Name x p) (e :: es) [] pos) (callE f fas) :=
  let ⟨_, pa, sa⟩ := ha.ex; ⟨_, pe_callTy hc hg hm hv pa hn hdb he hpl, sat_call hr sa⟩
/-- len -/
def lenD (d : D) (O : Sto) : ER := match d with
  | .str x => if x.length ≤ sizeLine then .ok (.int x.length) O else .bad
  | d => match seqR d O with
    | some ds => .ok (.int ds.length) O
    | none => match dicOf d O with | some (_, kvs) => .ok (.int kvs.length) O | none => .bad
def lenF : List D → Sto → ER := fun ds O => match ds with | [d] => lenD d O | _ => .bad
theorem shrL_one {K : PySem.W.Frag} {g : G} {d : D} {vs : List V} (h : ShrL K g [d] vs) : ∃ v, vs = [v] ∧ Shr K g d v := by
  simp only [ShrL] at h
  obtain ⟨v, r, rfl, h2, rfl⟩ := h
  exact ⟨v, rfl, h2⟩
theorem shrL_two {K : PySem.W.Frag} {g : G} {d d' : D} {vs : List V} (h : ShrL K g [d, d'] vs) : ∃ v v', vs = [v, v'] ∧ Shr K g d v ∧ Shr K g d' v' := by
  simp only [ShrL] at h
  obtain ⟨v, r, rfl, h2, w, r', rfl, h3, rfl⟩ := h
  exact ⟨v, w, rfl, h2, h3⟩
def rLenA (K : PySem.W.Frag) : List V → Hp → VK → Prop := fun xs H Q => (∃ x n, xs = [x] ∧ LenV K x H n ∧ Q (.int n) H) ∨ ∃ d kvs, xs = [.ref d] ∧ H d = some (.dK kvs) ∧ Q (.int kvs.length) H
theorem call_lenDic : CallR X (.builtin "len") (fun xs H Q => ∃ d kvs, xs = [.ref d] ∧ H d = some (.dK kvs) ∧ Q (.int kvs.length) H) := by
  intro pins s σ H xs us Q I r h
  obtain ⟨d, kvs, rfl, hd, q⟩ := h
  obtain ⟨u, rfl, ru⟩ := vals1 r
  cases ru
  exact d_len I (.inl hd) fun t s' I' => ⟨.int kvs.length, H, I', ⟨_, rfl⟩, q⟩
theorem call_lenA : CallR X (.builtin "len") (rLenA X.K) := call_len.or call_lenDic
theorem s_len : SatC C W (rLenA C.K) lenF := by
  intro g H O R ds vs s σ Q h
  unfold lenF at h
  split at h
  · rename_i d
    obtain ⟨v, rfl, sd⟩ := shrL_one s
    unfold lenD at h
    split at h
    · cases sd
      split at h
      · rename_i hl
        refine .inl ⟨_, _, rfl, ⟨by rw [strlen]; exact hl, rfl⟩, ?_⟩
        rw [strlen]
        exact Post.fin R rfl h
      · exact h.elim
    · split at h
      · rename_i xs e
        obtain ⟨p, ws, rfl, h2, h3⟩ := seqR_of R sd e
        refine .inl ⟨_, ws.length, rfl, ?_, ?_⟩
        · rcases h2 with h2 | h2
          · exact .inl ⟨ws, h2, rfl⟩
          · exact .inr ⟨ws, h2, rfl⟩
        · rw [shrL_len h3]
          exact Post.fin R rfl h
      · split at h
        · rename_i l kvs e
          obtain ⟨rfl, _, _, ws, h2, h3⟩ := dicOf_of R sd e
          refine .inr ⟨_, ws, rfl, h2, ?_⟩
          rw [shrK_len h3]
          exact Post.fin R rfl h
        · exact h.elim
  · exact h.elim
/-- a method of a builtin type -/
def bmE (ty : D → Sto → Bool) (f : D → List D → Sto → ER) (fo : DE0) (fas : Rho → Sto → Res (List D)) : DE0 := fun r O => (fo r O).bind fun d O1 => if ty d O1 then (fas r O1).bind fun ds O2 => f d ds O2 else .bad
def SatM (C : Ctx) (W : WX) (r : V → List V → Hp → VK → Prop) (f : D → List D → Sto → ER) : Prop := ∀ g H O, RepO C g H O → ∀ d ds v vs, Shr C.K g d v → ShrL C.K g ds vs → ∀ σ Q, Post C W σ g H (f d ds O) Q → r v vs H Q
def SatT (C : Ctx) (T : String) (ty : D → Sto → Bool) : Prop := ∀ g H O, RepO C g H O → ∀ d v, Shr C.K g d v → ty d O = true → tyV C.K T v H
def tyStr (d : D) (_ : Sto) : Bool := match d with | .str _ => true | _ => false
def tyLst (d : D) (O : Sto) : Bool := (listR d O).isSome
def tyDic (d : D) (O : Sto) : Bool := (dicOf d O).isSome
theorem ty_str : SatT C "str" tyStr := by
  intro g H O R d v s h
  cases d <;> simp [tyStr] at h
  cases s
  show "str" = "str"
  rfl
theorem ty_lst : SatT C "list" tyLst := by
  intro g H O R d v s h
  unfold tyLst at h
  cases e : listR d O with
  | none => rw [e] at h; cases h
  | some ds =>
    obtain ⟨p, vs, rfl, h2, _⟩ := listR_of R s e
    exact .inl ⟨rfl, vs, h2⟩
theorem ty_dic : SatT C "dict" tyDic := by
  intro g H O R d v s h
  unfold tyDic at h
  cases e : dicOf d O with
  | none => rw [e] at h; cases h
  | some ds =>
    obtain ⟨l, kvs⟩ := ds
    obtain ⟨rfl, _, _, vs, h2, _⟩ := dicOf_of R s e
    exact .inr (.inr (.inl ⟨rfl, .inl ⟨vs, h2⟩⟩))
variable {o : Expr} {fo : DE0} {name : Str} {apos cpos : Pos} {rm : V → List V → Hp → VK → Prop} {fm : D → List D → Sto → ER} {ty : D → Sto → Bool}
theorem d_bm (hK : X.K = C.K) (pa : PlainAttrs T) (slot : Slot T name id) (hty : typeOf (.builtin id) = pure (.type "method_descriptor")) (hm : MtR X id rm) (hr : SatM C W rm fm) (ht : SatT C T ty) (ho : DE C X W o fo) (ha : DA C X W (e :: es) fas)
    (hbase : attributeBase o name X.env (eval o X.env) = eval o X.env := by rfl)
    (hfew : ((backTo cpos (starEach (e :: es) X.env)).all (fun x => !x.1) && (backToKw cpos (keywordEach [] X.env)).all (fun x => x.1.isSome)
      && decide ((e :: es).length + ([] : List Keyword).length + (if ([] : List Keyword).isEmpty then 0 else 1) < 30)) = true := by rfl)
    (hline : (apos.endLine == cpos.line) = true := by rfl) (hs : starEach (e :: es) X.env = (false, eval e X.env) :: starEach es X.env := by rfl) (hplain : (backTo cpos (starEach es X.env)).any (·.1) = false := by rfl) :
    DE C X W (.Call (.Attribute o name apos) (e :: es) [] cpos) (bmE ty fm fo fas) :=
  let ⟨_, po, so⟩ := ho.ex; let ⟨_, pb, sb⟩ := ha.ex
  ⟨_, pe_bm pa slot hty hm po pb hbase hfew hline hs hplain, fun g σ H r O R S Q h => so.seq R S h fun d O1 v g1 H1 e1 R1 S1 s1 h1 => by
    split at h1
    · rename_i hy
      exact ⟨hK ▸ ht g1 H1 O1 R1 d v s1 hy, sb.seq R1 S1 h1 fun ds O2 vs g2 H2 e2 R2 S2 s2 h2 => hr g2 H2 O2 R2 d ds v vs (s1.mono e2.le) s2 σ Q h2⟩
    · exact h1.elim⟩
theorem d_bm0 (hK : X.K = C.K) (pa : PlainAttrs T) (slot : Slot T name id) (hty : typeOf (.builtin id) = pure (.type "method_descriptor")) (hm : MtR X id rm) (hr : SatM C W rm fm) (ht : SatT C T ty) (ho : DE C X W o fo)
    (hbase : attributeBase o name X.env (eval o X.env) = eval o X.env := by rfl) (hline : (apos.endLine == cpos.line) = true := by rfl) :
    DE C X W (.Call (.Attribute o name apos) [] [] cpos) (bmE ty fm fo nilA) :=
  let ⟨_, po, so⟩ := ho.ex
  ⟨_, pe_bm0 pa slot hty hm po hbase hline, fun g σ H r O R S Q h => so.seq R S h fun d O1 v g1 H1 e1 R1 S1 s1 h1 => by
    split at h1
    · rename_i hy
      exact ⟨hK ▸ ht g1 H1 O1 R1 d v s1 hy, hr g1 H1 O1 R1 d [] v [] s1 (by simp [ShrL]) σ Q h1⟩
    · exact h1.elim⟩
/-- xs.append(y) -/
def appendF : D → List D → Sto → ER := fun d ds O => match d, ds with
  | .ob l, [y] => (match O[l]? with | some (.lst xs) => if xs.length < sizeLine then .ok .non (O.set l (.lst (xs ++ [y]))) else .bad | _ => .bad)
  | _, _ => .bad
theorem s_append : SatM C W rAppend appendF := by
  intro g H O R d ds v vs s sl σ Q h
  unfold appendF at h
  split at h
  · rename_i l y
    simp only [Shr] at s
    obtain ⟨rfl, hl⟩ := s
    obtain ⟨w, rfl, sy⟩ := shrL_one sl
    split at h
    · rename_i xs e
      split at h
      · rename_i hz
        obtain ⟨ws, h1, h2⟩ := R.cell l _ e
        refine ⟨_, ws, w, rfl, rfl, h1, by rw [shrL_len h2]; exact hz, ?_⟩
        refine h .non g _ (Ext.set R hl) (R.set hl ⟨ws ++ [w], upd_same, shrL_append h2 ?_⟩) rfl
        simp only [ShrL]
        exact ⟨w, [], rfl, sy, rfl⟩
      · exact h.elim
    · exact h.elim
  · exact h.elim
end
end Dn
set_option Elab.async false
set_option linter.all false
set_option maxRecDepth 100000
set_option maxHeartbeats 2000000
namespace Dn
open PySem PySem.Spec PyProof.Rows L2
section
variable {C : Ctx} {X : Cx} {W : WX}
/-! ### defs -/
abbrev Fn := List D → Sto → ER
def spD (C : Ctx) (np : Nat) (fn : Fn) : Sp := fun vs H Q E => ∃ g O ds, ds.length = np ∧ RepO C g H O ∧ ShrL C.K g ds vs ∧ Post C (fun cv dx _ H' => E cv dx H') [] g H (fn ds O) Q
def runFn (n : Nat) (B : DS0) : Fn := fun ds O => match B (ds.map some ++ List.replicate (n - ds.length) none) O with
  | .nx _ O' => .ok .non O' | .ret d O' => .ok d O' | .exc e _ O' => .exc e O' | .bk _ _ => .bad | .ct _ _ => .bad | .bad => .bad
theorem rep_start {g : G} {N : List Str} {ds : List D} {vs : List V} (s : ShrL C.K g ds vs) : RepS C g (L2.start N vs) (ds.map some ++ List.replicate (N.length - ds.length) none) := by
  have hl := shrL_len s
  refine ⟨by simp [L2.start, hl], fun i d e => ?_⟩
  by_cases q : i < ds.length
  · rw [List.getElem?_append_left (by simpa using q), List.getElem?_map] at e
    cases z : ds[i]? with
    | none => rw [z] at e; cases e
    | some d' =>
      rw [z] at e
      simp at e
      subst e
      obtain ⟨v, h1, h2⟩ := shrL_get s z
      refine ⟨v, ?_, h2⟩
      unfold L2.start
      rw [List.getElem?_append_left (by simpa [hl] using q), List.getElem?_map, h1]
      rfl
  · rw [List.getElem?_append_right (by simpa using q)] at e
    rw [List.getElem?_replicate] at e
    split at e <;> cases e
section
variable {P : Program} {w : World} {K : PySem.W.Frag} {mg : Str → Option Value} {base : Heap}
theorem fn_okD {x qual : Str} {st : Stmt} {f : Addr} {fd : FuncData} {N ps : List Str} {k : Nat} {B : DS0} (F : Fun K x qual st f fd) (S : FnScope N ps (defScope st))
    (h : ∀ (cdv : Value) (A : Around) (outer : List Env) (s : Shared) (H : Hp) (E : XK), Room k (A.deeper (envOfC qual (defScope st) s.heap.objs.size f cdv)) →
      DSs C (cxOf (L2.CX P w) P w K mg base N qual (defScope st) f cdv A outer s H E) (fun cv dx _ H' => E cv dx H') (defBody st) B) :
    FnOk P w K mg base (L2.CX P w) (k + 1) f fd ps (spD C ps.length (runFn N.length B)) := by
  refine F.okX S (fun vs H Q E h => ?_) (fun cdv A outer s H vs Q E hr hsp => ?_)
  · obtain ⟨g, O, ds, h1, _, h2, _⟩ := h
    rw [shrL_len h2, h1]
  · obtain ⟨t, ht, hs⟩ := (h cdv A outer s H E hr).ex
    obtain ⟨g, O, ds, h1, R, s1, q⟩ := hsp
    refine ⟨t, ht, hs g _ H _ O R (rep_start s1) _ ?_⟩
    unfold runFn at q
    cases e : B (ds.map some ++ List.replicate (N.length - ds.length) none) O with
    | nx r O' => rw [e] at q; exact fun σ' g' H' e1 e2 e3 => q .non g' H' e1 e2 rfl
    | ret d O' => rw [e] at q; exact q
    | bk r O' => rw [e] at q; exact q.elim
    | ct r O' => rw [e] at q; exact q.elim
    | exc er r O' => rw [e] at q; exact fun cv dx σ' g' H' e1 e2 e3 e4 => q cv dx g' H' e1 e2 e4
    | bad => rw [e] at q; exact q
end
/-- a global def that keeps its promise -/
structure GF (P : Program) (w : World) (K : PySem.W.Frag) (mg : Str → Option Value) (base : Heap) (C : Ctx) (x : Str) (k np : Nat) (fn : Fn) : Prop where
  ex : ∃ f fd ps, ps.length = np ∧ FnOk P w K mg base (L2.CX P w) k f fd ps (spD C np fn) ∧ mg x = some (.ref f) ∧ PySem.W.keepIn K (.ref f) = true ∧ Binds K fd ps []
theorem GF.mono {P : Program} {w : World} {K : PySem.W.Frag} {mg : Str → Option Value} {base : Heap} {x : Str} {j k np : Nat} {fn : Fn} (h : GF P w K mg base C x j np fn) (hk : j ≤ k) : GF P w K mg base C x k np fn := by
  obtain ⟨f, fd, ps, h1, h2, h3⟩ := h.ex
  exact ⟨f, fd, ps, h1, h2.mono hk, h3⟩
def fnE (np : Nat) (fn : Fn) (fas : Rho → Sto → Res (List D)) : DE0 := fun r O => (fas r O).bind fun ds O1 => if ds.length = np then fn ds O1 else .bad
theorem post_W {α β : Type} [Rel α β] {σ : L2.St} {g : G} {H : Hp} {x : Res α} {Q : β → Hp → Prop} (h : Post C W σ g H x Q) : Post C (fun cv dx _ H' => W cv dx σ H') [] g H x Q := by
  cases x with
  | ok d O => exact h
  | exc e O => exact h
  | bad => exact h
theorem sat_fn {t : TA} {np : Nat} {fn : Fn} {fas : Rho → Sto → Res (List D)} (sa : Sat C W t fas) : Sat C W (tCallS (spD C np fn) (WE W) t) (fnE np fn fas) := fun g σ H ρ O R S Q h =>
  sa.seq R S h fun ds O1 vs g1 H1 e1 R1 S1 s1 h1 => by
    split at h1
    · rename_i hl
      exact ⟨g1, O1, ds, hl, R1, s1, post_W h1⟩
    · exact h1.elim
variable {x m : Str} {p pos apos : Pos} {e o : Expr} {es : List Expr} {fas : Rho → Sto → Res (List D)} {fe fo : DE0} {k np : Nat} {fn : Fn}
theorem d_call (G1 : GF X.prog X.w X.K X.mg X.base C x k np fn) (hr : Room k X.A) (tk : Takes X W) (hg : Gl X x) (ha : DA C X W (e :: es) fas)
    (hdb : (x == ("__debug__" : Str)) = false := by decide) (he : starEach (e :: es) X.env = (false, eval e X.env) :: starEach es X.env := by rfl) (hpl : (backTo pos (starEach es X.env)).any (·.1) = false := by rfl) :
    DE C X W (.Call (.Name x p) (e :: es) [] pos) (fnE np fn fas) := by
  obtain ⟨f, fd, ps, h1, F, hm, hk, hb⟩ := G1.ex
  obtain ⟨_, pa, sa⟩ := ha.ex
  exact ⟨_, pe_callS F hr hg hm hk hb (fun σ => passAt tk σ) pa hdb he hpl, sat_fn sa⟩
theorem pe_call0S {CX : CXT} {f : Addr} {fd : FuncData} {ps : List Str} {sp : Sp} {E : L2.St → XK} (F : FnOk X.prog X.w X.K X.mg X.base CX k f fd ps sp) (hr : Room k X.A) (hg : Gl X x) (hm : X.mg x = some (.ref f)) (hk : PySem.W.keepIn X.K (.ref f) = true) (hb : Binds X.K fd ps []) (hx : ∀ σ, PassesAt CX X σ (E σ))
    (hdb : (x == ("__debug__" : Str)) = false := by decide) : PE X (.Call (.Name x p) [] [] pos) (tCallS sp E tNil) := by
  refine ⟨fun pins s σ H Q I h => ?_⟩
  refine wpAny_Call_Name_kw (ld_glob I hg hm ?_ hdb)
  exact PySem.W.callWith_K0 I.kIn hk (run_fnS (us := []) F hr hb (hx σ) I .nil h)
theorem sat_nil : Sat C W tNil nilA := fun g σ H r O R S Q h => Post.fin R (by show ShrL _ _ [] []; simp [ShrL]) h
theorem d_call0 (G1 : GF X.prog X.w X.K X.mg X.base C x k np fn) (hr : Room k X.A) (tk : Takes X W) (hg : Gl X x)
    (hdb : (x == ("__debug__" : Str)) = false := by decide) : DE C X W (.Call (.Name x p) [] [] pos) (fnE np fn nilA) := by
  obtain ⟨f, fd, ps, h1, F, hm, hk, hb⟩ := G1.ex
  exact ⟨_, pe_call0S F hr hg hm hk hb (fun σ => passAt tk σ) hdb, sat_fn sat_nil⟩
/-! ### closed defs: run over no cells at all -/
mutual
def noOb : D → Bool
  | .ob _ => false
  | .tup ds => noObL ds
  | .lst ds => noObL ds
  | .scr ds => noObL ds
  | _ => true
def noObL : List D → Bool
  | [] => true
  | d :: ds => noOb d && noObL ds
end
def noObF : List (Nat × D) → Bool
  | [] => true
  | p :: ds => noOb p.2 && noObF ds
mutual
theorem shr_noOb {K : PySem.W.Frag} {g g' : G} (h : ∀ a o, g.F a = some o → g'.F a = some o) : ∀ (d : D) (v : V), noOb d = true → Shr K g d v → Shr K g' d v
  | .non, _, _, s => s
  | .bl _, _, _, s => s
  | .int _, _, _, s => s
  | .str _, _, _, s => s
  | .tup ds, v, n, s => by
    simp only [Shr] at s ⊢
    obtain ⟨a, vs, h1, h2, h3⟩ := s
    exact ⟨a, vs, h1, ex_t h h2, shrL_noOb h ds vs (by simpa [noOb] using n) h3⟩
  | .lst ds, v, n, s => by
    simp only [Shr] at s ⊢
    obtain ⟨a, vs, h1, h2, h3⟩ := s
    exact ⟨a, vs, h1, h _ _ h2, shrL_noOb h ds vs (by simpa [noOb] using n) h3⟩
  | .scr ds, v, n, s => by
    simp only [Shr] at s ⊢
    obtain ⟨a, vs, h1, h2, h3⟩ := s
    exact ⟨a, vs, h1, ex_l h h2, shrL_noOb h ds vs (by simpa [noOb] using n) h3⟩
  | .ob _, _, n, _ => by simp [noOb] at n
theorem shrL_noOb {K : PySem.W.Frag} {g g' : G} (h : ∀ a o, g.F a = some o → g'.F a = some o) : ∀ (d : List D) (v : List V), noObL d = true → ShrL K g d v → ShrL K g' d v
  | [], _, _, s => by simp only [ShrL] at s ⊢; exact s
  | d :: ds, vs, n, s => by
    simp only [ShrL] at s ⊢
    obtain ⟨v, r, h1, h2, h3⟩ := s
    simp only [noObL, Bool.and_eq_true] at n
    exact ⟨v, r, h1, shr_noOb h d v n.1 h2, shrL_noOb h ds r n.2 h3⟩
end
theorem shrF_noOb {g g' : G} (h : ∀ a o, g.F a = some o → g'.F a = some o) : ∀ (d : List (Nat × D)) (v : List (Str × V)), noObF d = true → ShrF C g d v → ShrF C g' d v
  | [], _, _, s => s
  | p :: ds, vs, n, ⟨v, r, h1, h2, h3, h4⟩ => by
    simp only [noObF, Bool.and_eq_true] at n
    exact ⟨v, r, h1, h2, shr_noOb h _ _ n.1 h3, shrF_noOb h ds r n.2 h4⟩
/-- what a def gives over no cells, in the midst of any -/
def closeFn (fn : Fn) : Fn := fun ds O => if noObL ds then match fn ds [] with
  | .ok d _ => if noOb d then .ok d O else .bad
  | .exc e _ => if noObF e.fs then .exc e O else .bad
  | .bad => .bad else .bad
def G.none' (g : G) : G := { g with n := 0 }
theorem ErOk.to {g g' : G} {H : Hp} {e : Er} {cv : Value} {dx : Option Addr} (h : ∀ a o, g.F a = some o → g'.F a = some o) (n : noObF e.fs = true) (k : ErOk C g H e cv dx) : ErOk C g' H e cv dx := by
  obtain ⟨A, h1, h2, h3⟩ := k
  refine ⟨A, h1, h2, ?_⟩
  rcases h3 with h3 | ⟨d, vs, h3, h4, h5, h6⟩
  · exact .inl h3
  · exact .inr ⟨d, vs, h3, h4, h5, shrF_noOb h _ _ n h6⟩
theorem close_post {g : G} {H : Hp} {O : Sto} {ds : List D} {vs : List V} (R : RepO C g H O) (s : ShrL C.K g ds vs) {W' : WX} {σ : L2.St} {Q : VK} (h : Post C W' σ g H (closeFn fn ds O) Q) :
    RepO C g.none' H [] ∧ ShrL C.K g.none' ds vs ∧ Post C W' σ g.none' H (fn ds []) Q := by
  unfold closeFn at h
  split at h
  · rename_i hn
    refine ⟨⟨rfl, R.F, fun l c e => by simp at e, fun l hl => absurd hl (Nat.not_lt_zero _), fun i j hi => absurd hi (Nat.not_lt_zero _)⟩, shrL_noOb (g := g) (g' := g.none') (fun _ _ h => h) _ _ hn s, ?_⟩
    have back : ∀ {g' : G} {H' : Hp}, Ext g.none' H g' H' → (∀ a o, g'.F a = some o → H' a = some o) → RepO C { F := g'.F, θ := g.θ, n := g.n } H' O ∧ Ext g H { F := g'.F, θ := g.θ, n := g.n } H' := fun {g' H'} e hF => by
      have keep : ∀ a o, H a = some o → H' a = some o := fun a o q => e.keep a o q fun l hl => absurd hl (Nat.not_lt_zero _)
      have le : GLe g { F := g'.F, θ := g.θ, n := g.n } := ⟨e.le.F, fun _ _ => rfl, Nat.le_refl _⟩
      refine ⟨⟨R.n, hF, fun l c q => ?_, fun l hl => ?_, R.inj⟩, ⟨le, fun a o q _ => keep a o q, fun l h h' => absurd h' (Nat.not_lt.mpr h), fun l hl => ?_, fun a o q => e.frz a o q⟩⟩
      · have hl : l < g.n := by rw [R.n]; exact (List.getElem?_eq_some_iff.mp q).1
        obtain ⟨o, ho, _⟩ := (R.cell l c q).some'
        exact ((R.cell l c q).mono le).heap (by show H (g.θ l) = H' (g.θ l); rw [ho, keep _ _ ho])
      · show g'.F (g.θ l) = none
        cases q : g'.F (g.θ l) with
        | none => rfl
        | some o =>
          exfalso
          rcases e.frz _ o q with z | z
          · have z' : g.F (g.θ l) = some o := z
            rw [R.fresh l hl] at z'; cases z'
          · exact R.trk hl z
      · cases q : H (g.θ l) with
        | none => exact absurd q (R.trk hl)
        | some o => rw [keep _ _ q]; exact fun z => nomatch z
    cases q : fn ds [] with
    | ok d O' =>
      rw [q] at h
      simp only at h
      split at h
      · rename_i hd
        intro v g' H' e1 R1 s1
        obtain ⟨R2, e2⟩ := back e1 R1.F
        exact h v _ H' e2 R2 (shr_noOb (g := g') (g' := { F := g'.F, θ := g.θ, n := g.n }) (fun _ _ h => h) _ _ hd s1)
      · exact h.elim
    | exc e O' =>
      rw [q] at h
      simp only at h
      split at h
      · rename_i hd
        intro cv dx g' H' e1 R1 k1
        obtain ⟨R2, e2⟩ := back e1 R1.F
        exact h cv dx _ H' e2 R2 (ErOk.to (g := g') (g' := { F := g'.F, θ := g.θ, n := g.n }) (fun _ _ h => h) hd k1)
      · exact h.elim
    | bad => rw [q] at h; exact h.elim
  · exact h.elim
theorem GF.close {P : Program} {w : World} {K : PySem.W.Frag} {mg : Str → Option Value} {base : Heap} (h : GF P w K mg base C x k np fn) : GF P w K mg base C x k np (closeFn fn) := by
  obtain ⟨f, fd, ps, h1, F, h3⟩ := h.ex
  refine ⟨f, fd, ps, h1, F.imp fun vs H Q E ⟨g, O, ds, h4, R, s, q⟩ => ?_, h3⟩
  obtain ⟨R', s', q'⟩ := close_post R s q
  exact ⟨_, [], ds, h4, R', s', q'⟩
end
end Dn
set_option Elab.async false
set_option linter.all false
set_option maxRecDepth 100000
set_option maxHeartbeats 2000000
namespace Dn
open PySem PySem.Spec PyProof.Rows L2
section
variable {C : Ctx} {X : Cx} {W : WX}
variable {e a b c : Expr} {fe fa fb : DE0} {pos pos' : Pos} {st : Stmt} {rest sts : List Stmt} {f g : DS0} {ft : Rho → Sto → Res Bool}
/-! ### blocks and small statements -/
def nilS : DS0 := fun r O => .nx r O
def consS (f g : DS0) : DS0 := fun r O => (f r O).bind g
theorem ss_nil : DSs C X W [] nilS := ⟨_, pss_nil, fun g σ H r O R S E h => h σ g H (Ext.refl R) R S⟩
theorem ss_one (h : DS C X W st f) : DSs C X W [st] f := let ⟨_, p, s⟩ := h.ex; ⟨_, pss_one p, s⟩
theorem ss_cons (h : DS C X W st f) (k : DSs C X W rest g) : DSs C X W (st :: rest) (consS f g) :=
  let ⟨_, p, s⟩ := h.ex; let ⟨_, q, t⟩ := k.ex
  ⟨_, pss_cons p q, fun g σ H r O R S E h => SatS.seq s R S h fun r' O' σ' g' H' e1 R1 S1 h1 => t g' σ' H' r' O' R1 S1 _ h1⟩
def exprS (f : DE0) : DS0 := fun r O => (f r O).bindS r fun _ O1 => .nx r O1
theorem s_expr (he : DE C X W e fe) (hs : swapsWith e none pos.line X.env = pure false := by rfl) : DS C X W (.Expr e pos) (exprS fe) :=
  let ⟨_, p, s⟩ := he.ex; ⟨_, ps_expr p hs, fun g σ H r O R S E h => s.seqS R S h fun d O1 v g1 H1 e1 R1 S1 s1 h1 => h1 σ g1 H1 (Ext.refl R1) R1 S1⟩
theorem s_doc {x j} : DS C X W (.Expr (.Constant (.str x) j pos) pos') nilS := ⟨_, ps_doc, fun g σ H r O R S E h => h σ g H (Ext.refl R) R S⟩
theorem s_pass : DS C X W (.Pass pos) nilS := ⟨_, ps_pass, fun g σ H r O R S E h => h σ g H (Ext.refl R) R S⟩
def breakS : DS0 := fun r O => .bk r O
def contS : DS0 := fun r O => .ct r O
theorem s_break : DS C X W (.Break pos) breakS := ⟨_, ps_break, fun g σ H r O R S E h => h σ g H (Ext.refl R) R S⟩
theorem s_continue : DS C X W (.Continue pos) contS := ⟨_, ps_continue, fun g σ H r O R S E h => h σ g H (Ext.refl R) R S⟩
def retS (f : DE0) : DS0 := fun r O => (f r O).bindS r fun d O1 => .ret d O1
def retN : DS0 := fun _ O => .ret .non O
theorem s_ret (he : DE C X W e fe) : DS C X W (.Return (some e) pos) (retS fe) :=
  let ⟨_, p, s⟩ := he.ex; ⟨_, ps_ret p, fun g σ H r O R S E h => s.seqS R S h fun d O1 v g1 H1 e1 R1 S1 s1 h1 => h1 v g1 H1 (Ext.refl R1) R1 s1⟩
theorem s_retN : DS C X W (.Return none pos) retN := ⟨_, ps_retN, fun g σ H r O R S E h => h .non g H (Ext.refl R) R rfl⟩
def ifS (c : Rho → Sto → Res Bool) (f g : DS0) : DS0 := fun r O => (c r O).bindS r fun k O1 => if k then f r O1 else g r O1
theorem s_if {xs ys : List Stmt} (hc : DT C X W c ft) (ha : DSs C X W xs f) (hb : DSs C X W ys g) : DS C X W (.If c xs ys pos) (ifS ft f g) :=
  let ⟨_, p, s⟩ := hc.ex; let ⟨_, q, t⟩ := ha.ex; let ⟨_, q', t'⟩ := hb.ex
  ⟨_, ps_if p q q', fun g σ H r O R S E h => s.seqS R S h fun k O1 k' g1 H1 e1 R1 S1 s1 h1 => by
    cases s1
    cases k with
    | true => rw [if_pos rfl]; exact t g1 σ H1 r O1 R1 S1 _ h1
    | false => rw [if_neg Bool.false_ne_true]; exact t' g1 σ H1 r O1 R1 S1 _ h1⟩
/-! ### targets -/
abbrev TG0 := D → Rho → Sto → Option (Rho × Sto)
def PostG (C : Ctx) (own : List Nat) (σ : L2.St) (g : G) (H : Hp) (x : Option (Rho × Sto)) (Q : L2.St → Hp → Prop) : Prop := match x with
  | none => False
  | some (r, O) => ∀ σ' g' H', Ext g H g' H' → RepO C g' H' O → RepS C g' σ' r → (∀ vs : List Nat, (∀ i ∈ own, i ∈ vs) → wipe σ' vs = wipe σ vs) → Q σ' H'
def SatG (C : Ctx) (own : List Nat) (t : TG) (f : TG0) : Prop := ∀ g σ H r O, RepO C g H O → RepS C g σ r → ∀ d v, Shr C.K g d v → ∀ Q, PostG C own σ g H (f d r O) Q → t v σ H Q
structure DG (C : Ctx) (X : Cx) (tg : Expr) (own : List Nat) (f : TG0) : Prop where
  ex : ∃ t, PG X tg t ∧ SatG C own t f
theorem set_wipe {σ : L2.St} {i : Nat} {v : Option V} : ∀ {vs : List Nat}, i ∈ vs → wipe (σ.set i v) vs = wipe σ vs
  | [], h => by cases h
  | j :: vs, h => by
    show (wipe (σ.set i v) vs).set j none = (wipe σ vs).set j none
    by_cases e : i ∈ vs
    · rw [set_wipe e]
    · have ij : i = j := by
        rcases List.mem_cons.mp h with h | h
        · exact h
        · exact absurd h e
      subst ij
      have : ∀ (ws : List Nat), i ∉ ws → wipe (σ.set i v) ws = (wipe σ ws).set i v := by
        intro ws
        induction ws with
        | nil => intro _; rfl
        | cons k ws ih =>
          intro hk
          simp only [List.mem_cons, not_or] at hk
          show (wipe (σ.set i v) ws).set k none = ((wipe σ ws).set k none).set i v
          rw [ih hk.2, List.set_comm _ _ hk.1]
      rw [this vs e, List.set_set]
def nameG (i : Nat) : TG0 := fun d r O => some (r.set i (some d), O)
theorem g_name (i : Nat) {x : Str} (hN : X.N.Nodup) (hi : X.N[i]? = some x := by rfl) (hx : Loc X.env.scope x := by first | exact Or.inl rfl | exact Or.inr rfl) (hf : X.fn x = true ∨ X.env.scope.names.lookup x = some .local := by first | exact .inl rfl | exact .inr rfl | assumption) : DG C X (.Name x pos) [i] (nameG i) :=
  ⟨_, pg_name hN hi hx hf, fun g σ H r O R S d v s Q h => h _ g H (Ext.refl R) R (S.set s) fun vs hv => set_wipe (hv i (by simp))⟩
abbrev TGs0 := List D → Rho → Sto → Option (Rho × Sto)
structure DGs (C : Ctx) (X : Cx) (ts : List Expr) (own : List Nat) (f : TGs0) : Prop where
  ex : ∃ t, PGs X ts t ∧ ∀ g σ H r O, RepO C g H O → RepS C g σ r → ∀ ds vs, ShrL C.K g ds vs → ∀ Q, PostG C own σ g H (f ds r O) Q → t vs σ H Q
def nilG : TGs0 := fun ds r O => match ds with | [] => some (r, O) | _ => none
def consG (f : TG0) (g : TGs0) : TGs0 := fun ds r O => match ds with | d :: ds => (match f d r O with | some (r1, O1) => g ds r1 O1 | none => none) | [] => none
theorem gs_nil : DGs C X [] [] nilG := ⟨_, pgs_nil, fun g σ H r O R S ds vs s Q h => by
  unfold nilG at h
  split at h
  · simp only [ShrL] at s; subst s
    exact ⟨rfl, h σ g H (Ext.refl R) R S fun _ _ => rfl⟩
  · exact h.elim⟩
theorem gs_cons {tg : Expr} {ts : List Expr} {o o' : List Nat} {f : TG0} {fs : TGs0} (h : DG C X tg o f) (k : DGs C X ts o' fs) (hs : (assignEach (tg :: ts) X.env).map (·.2) = assign tg X.env :: (assignEach ts X.env).map (·.2) := by rfl) :
    DGs C X (tg :: ts) (o ++ o') (consG f fs) :=
  let ⟨_, p, s⟩ := h.ex; let ⟨_, q, t⟩ := k.ex
  ⟨_, pgs_cons p q hs, fun g σ H r O R S ds vs sd Q h => by
    unfold consG at h
    split at h
    · rename_i d ds
      simp only [ShrL] at sd
      obtain ⟨v, vr, rfl, h2, h3⟩ := sd
      refine ⟨v, vr, rfl, s g σ H r O R S d v h2 _ ?_⟩
      split at h
      · rename_i r1 O1 e
        rw [e]
        intro σ1 g1 H1 e1 R1 S1 w1
        refine t g1 σ1 H1 r1 O1 R1 S1 ds vr (ShrL.mono e1.le _ _ h3) Q ?_
        cases q : fs ds r1 O1 with
        | none => rw [q] at h; exact h.elim
        | some z =>
          obtain ⟨r2, O2⟩ := z
          rw [q] at h
          exact fun σ2 g2 H2 e2 R2 S2 w2 => h σ2 g2 H2 (e1.trans e2) R2 S2 fun ws hw => (w2 ws fun i hi => hw i (by simp [hi])).trans (w1 ws fun i hi => hw i (by simp [hi]))
      · exact h.elim
    · exact h.elim⟩
/-- (a, b, ..) = a tuple or a list of that length -/
def tupG (n : Nat) (f : TGs0) : TG0 := fun d r O => match seqR d O with | some ds => if ds.length = n then f ds r O else none | none => none
theorem PG.or {tg : Expr} {t t' : TG} (h : PG X tg t) (h' : PG X tg t') : PG X tg (fun v σ H Q => t v σ H Q ∨ t' v σ H Q) :=
  ⟨fun pins s σ H v u Q I r q => q.elim (h.run pins s σ H v u Q I r) (h'.run pins s σ H v u Q I r)⟩
theorem g_tup {es : List Expr} {k : Nat} {own : List Nat} {fs : TGs0} {n : Nat} (hK : X.K = C.K) (hc : X.calm = true) (h : DGs C X es own fs)
    (hn : (assignEach es X.env).length = n := by rfl) (hst : (assignEach es X.env).findIdx? (·.1) = none := by rfl) : DG C X (.Tuple es k pos) own (tupG n fs) :=
  let ⟨_, p, s⟩ := h.ex
  ⟨_, PG.or (pg_tup hc p hn hst) (pg_lst hc p hn hst), fun g σ H r O R S d v sd Q h => by
    unfold tupG at h
    split at h
    · rename_i ds e
      split at h
      · rename_i hl
        obtain ⟨a, vs, rfl, h2, h3⟩ := seqR_of R sd e
        have hl' : vs.length = n := by rw [shrL_len h3]; exact hl
        rw [hK]
        rcases h2 with h2 | h2
        · exact .inr ⟨a, vs, rfl, h2, hl', s g σ H r O R S ds vs h3 Q h⟩
        · exact .inl ⟨a, vs, rfl, h2, hl', s g σ H r O R S ds vs h3 Q h⟩
      · exact h.elim
    · exact h.elim⟩
/-- name = e -/
def setS (i : Nat) (f : DE0) : DS0 := fun r O => (f r O).bindS r fun d O1 => .nx (r.set i (some d)) O1
theorem s_set (i : Nat) {x : Str} (hN : X.N.Nodup) (he : DE C X W e fe) (hi : X.N[i]? = some x := by rfl) (hx : Loc X.env.scope x := by first | exact Or.inl rfl | exact Or.inr rfl) (hs : swapsWith e (some (.Name x pos')) pos.line X.env = pure false := by rfl)
    (hf : X.fn x = true ∨ X.env.scope.names.lookup x = some .local := by first | exact .inl rfl | exact .inr rfl | assumption) : DS C X W (.Assign [.Name x pos'] e pos) (setS i fe) :=
  let ⟨_, p, s⟩ := he.ex; ⟨_, ps_set hN hi hx p hs hf, fun g σ H r O R S E h => s.seqS R S h fun d O1 v g1 H1 e1 R1 S1 s1 h1 => h1 _ g1 H1 (Ext.refl R1) R1 (S1.set s1)⟩
/-- target = e -/
def asgS (t : TG0) (f : DE0) : DS0 := fun r O => (f r O).bindS r fun d O1 => match t d r O1 with | some (r', O') => .nx r' O' | none => .bad
theorem s_asg {tg : Expr} {own : List Nat} {t : TG0} (he : DE C X W e fe) (hg : DG C X tg own t) (hs : swapsWithSole [tg] e pos.line X.env = pure false := by rfl) (hw : swappedStores [tg] e X.env = pure none := by rfl)
    (h1 : (assignEach [tg] X.env).map (·.2) = [assign tg X.env] := by rfl) : DS C X W (.Assign [tg] e pos) (asgS t fe) :=
  let ⟨_, p, s⟩ := he.ex; let ⟨_, q, u⟩ := hg.ex
  ⟨_, ps_asg p q hs hw h1, fun g σ H r O R S E h => s.seqS R S h fun d O1 v g1 H1 e1 R1 S1 s1 h1 => by
    refine u g1 σ H1 r O1 R1 S1 d v s1 _ ?_
    cases z : t d r O1 with
    | none => rw [z] at h1; exact h1.elim
    | some y =>
      obtain ⟨r', O'⟩ := y
      rw [z] at h1
      exact fun σ' g' H' e2 R2 S2 _ => h1 σ' g' H' e2 R2 S2⟩
/-- a[b] = e -/
def stoD (a b d : D) (O : Sto) : Option Sto := match a with
  | .ob l => match O[l]? with
    | some (.lst xs) => (match b with | .int i => (match ixN xs.length i with | some j => some (O.set l (.lst (xs.set j d))) | none => none) | _ => none)
    | some (.dic kvs) => (match keyD b with | some k => if kvs.length < sizeLine then some (O.set l (.dic (putD kvs k d))) else none | none => none)
    | _ => none
  | _ => none
def subG (fa fb : DE0) : TG0 := fun d r O => match fa r O with
  | .ok a O1 => (match fb r O1 with | .ok b O2 => (match stoD a b d O2 with | some O3 => some (r, O3) | none => none) | _ => none)
  | _ => none
def rSetA : TSet := fun o i v H Q => rSetL o i v H Q ∨ ∃ a H', o = .ref a ∧ DPut H a i v H' ∧ Q H'
theorem set_all (hu : X.A.units + 1 < cLine) : PSet X rSetA := by
  intro pins s σ H o i v ov iv u Q I r1 r2 r3 h
  rcases h with h | ⟨a, H', rfl, h2, h3⟩
  · exact set_list pins s σ H o i v ov iv u Q I r1 r2 r3 h
  · cases r1
    exact d_setItem hu I h2 r2 r3 fun s4 I4 => ⟨H', I4, h3⟩
theorem ok_seq {σ : L2.St} {gh : G} {H : Hp} {r : Rho} {O : Sto} {te : TE} {f : DE0} (p : Sat C W te f) (R : RepO C gh H O) (S : RepS C gh σ r) {d : D} {O' : Sto} (h : f r O = .ok d O') {Q : VK}
    (c : ∀ v g' H', Ext gh H g' H' → RepO C g' H' O' → RepS C g' σ r → Shr C.K g' d v → Q v H') : te σ H Q := by
  refine p gh σ H r O R S Q ?_
  rw [h]
  exact fun v g' H' e1 R1 s1 => c v g' H' e1 R1 (S.mono e1.le) s1
theorem g_sub (hu : X.A.units + 1 < cLine) (ha : DE C X W a fa) (hb : DE C X W b fb)
    (hs : ∀ v, assign (.Subscript a b pos) X.env v = (do
      let ov ← holding [v] (eval a X.env)
      let iv ← holding [v, ov] (eval b X.env)
      standAt pos
      holding [v, ov, iv] (setItem ov iv v)
      release [v, ov, iv] []) := by intro _; rfl) : DG C X (.Subscript a b pos) [] (subG fa fb) :=
  let ⟨_, p, s⟩ := ha.ex; let ⟨_, q, t⟩ := hb.ex
  ⟨_, pg_sub p q (set_all hu) hs, fun g σ H r O R S d v sd Q h => by
    unfold subG at h
    split at h
    · rename_i da O1 e1
      split at h
      · rename_i db O2 e2
        split at h
        · rename_i O3 e3
          refine ok_seq s R S e1 fun va g1 H1 x1 R1 S1 s1 => ok_seq t R1 S1 e2 fun vb g2 H2 x2 R2 S2 s2 => ?_
          have sd2 := Shr.mono (x1.le.trans x2.le) _ _ sd
          have s1' := Shr.mono x2.le _ _ s1
          unfold stoD at e3
          split at e3
          · rename_i l
            simp only [Shr] at s1'
            obtain ⟨rfl, hl⟩ := s1'
            split at e3
            · rename_i xs ec
              split at e3
              · rename_i i
                cases s2
                split at e3
                · rename_i j ej
                  cases e3
                  obtain ⟨vs, h1, h2⟩ := R2.cell l _ ec
                  refine .inl ⟨_, vs, i, j, rfl, rfl, h1, by rw [shrL_len h2]; exact ej, ?_⟩
                  exact h σ g2 _ ((x1.trans x2).trans (Ext.set R2 hl)) (R2.set hl ⟨_, upd_same, shrL_set sd2 j h2⟩) S2 fun _ _ => rfl
                · cases e3
              · cases e3
            · rename_i kvs ec
              split at e3
              · rename_i k ek
                split at e3
                · rename_i hz
                  cases e3
                  have := keyD_of s2 ek
                  subst this
                  obtain ⟨vs, h1, h2⟩ := R2.cell l _ ec
                  refine .inr ⟨_, _, rfl, DPut.k h1 (by rw [shrK_len h2]; exact hz), ?_⟩
                  exact h σ g2 _ ((x1.trans x2).trans (Ext.set R2 hl)) (R2.set hl ⟨_, upd_same, shrK_put sd2 h2⟩) S2 fun _ _ => rfl
                · cases e3
              · cases e3
            · cases e3
          · cases e3
        · exact h.elim
      · exact h.elim
    · exact h.elim⟩
/-! ### while -/
def whileL (c : Rho → Sto → Res Bool) (b : DS0) : Nat → Rho → Sto → SR
  | 0, _, _ => .bad
  | n + 1, r, O => (c r O).bindS r fun k O1 => if k then (match b r O1 with
      | .nx r2 O2 => whileL c b n r2 O2 | .ct r2 O2 => whileL c b n r2 O2 | .bk r2 O2 => .nx r2 O2 | .ret d O2 => .ret d O2 | .exc e r2 O2 => .exc e r2 O2 | .bad => .bad) else .nx r O1
def whileS (n : Nat) (c : Rho → Sto → Res Bool) (b : DS0) : DS0 := whileL c b n
theorem s_while (n : Nat) {body : List Stmt} (hp : PassesOwn (model X.prog X.w) X.A X.env X.xe) (hc : DT C X W c ft) (hb : DSs C X W body f) : DS C X W (.While c body [] pos) (whileS n ft f) :=
  let ⟨_, p, s⟩ := hc.ex; let ⟨_, q, t⟩ := hb.ex
  ⟨_, ps_while hp p q, fun g0 σ0 H0 r0 O0 R0 S0 E h0 => by
    refine ⟨fun m σ H => ∃ g r O, RepO C g H O ∧ RepS C g σ r ∧ PostS C W g H (whileL ft f m r O) E, ⟨n, g0, r0, O0, R0, S0, h0⟩, ?_⟩
    rintro m σ H ⟨g, r, O, R, S, h⟩
    cases m with
    | zero => exact h.elim
    | succ m =>
      refine s.seqS R S (show PostS C W g H ((ft r O).bindS r _) E from h) fun k O1 k' g1 H1 e1 R1 S1 s1 h1 => ?_
      cases s1
      cases k with
      | false => exact h1 σ g1 H1 (Ext.refl R1) R1 S1
      | true =>
        refine ⟨fun σ' H' => ∃ g r O, RepO C g H' O ∧ RepS C g σ' r ∧ PostS C W g H' (whileL ft f m r O) E, fun σ' H' hh => ⟨m, Nat.lt_succ_self _, hh⟩, ?_⟩
        refine t g1 σ H1 r O1 R1 S1 _ ?_
        rw [if_pos rfl] at h1
        cases z : f r O1 with
        | nx r2 O2 => rw [z] at h1; exact fun σ' g' H' e2 R2 S2 => ⟨g', r2, O2, R2, S2, PostS.shift e2 h1⟩
        | ct r2 O2 => rw [z] at h1; exact fun σ' g' H' e2 R2 S2 => ⟨g', r2, O2, R2, S2, PostS.shift e2 h1⟩
        | bk r2 O2 => rw [z] at h1; exact h1
        | ret d O2 => rw [z] at h1; exact h1
        | exc e r2 O2 => rw [z] at h1; exact h1
        | bad => rw [z] at h1; exact h1⟩
/-! ### what is walked -/
mutual
def eqS : D → D → Bool
  | .non, .non => true
  | .bl a, .bl b => a == b
  | .int a, .int b => a == b
  | .str a, .str b => a == b
  | .tup a, .tup b => eqSL a b
  | .lst a, .lst b => eqSL a b
  | .scr a, .scr b => eqSL a b
  | .ob a, .ob b => a == b
  | _, _ => false
def eqSL : List D → List D → Bool
  | [], [] => true
  | a :: as, b :: bs => eqS a b && eqSL as bs
  | _, _ => false
end
mutual
theorem eqS_eq : ∀ {a b : D}, eqS a b = true → a = b
  | .non, b, h => by cases b <;> simp_all [eqS]
  | .bl _, b, h => by cases b <;> simp_all [eqS]
  | .int _, b, h => by cases b <;> simp_all [eqS]
  | .str _, b, h => by cases b <;> simp_all [eqS]
  | .ob _, b, h => by cases b <;> simp_all [eqS]
  | .tup a, b, h => by cases b <;> simp only [eqS] at h <;> first | (cases h; done) | rw [eqSL_eq h]
  | .lst a, b, h => by cases b <;> simp only [eqS] at h <;> first | (cases h; done) | rw [eqSL_eq h]
  | .scr a, b, h => by cases b <;> simp only [eqS] at h <;> first | (cases h; done) | rw [eqSL_eq h]
theorem eqSL_eq : ∀ {a b : List D}, eqSL a b = true → a = b
  | [], [], _ => rfl
  | [], _ :: _, h => by simp [eqSL] at h
  | _ :: _, [], h => by simp [eqSL] at h
  | x :: xs, y :: ys, h => by
    simp only [eqSL, Bool.and_eq_true] at h
    rw [eqS_eq h.1, eqSL_eq h.2]
end
mutual
theorem eqS_rfl : ∀ a : D, eqS a a = true
  | .non => by simp [eqS]
  | .bl _ => by simp [eqS]
  | .int _ => by simp [eqS]
  | .str _ => by simp [eqS]
  | .ob _ => by simp [eqS]
  | .tup a => by simp [eqS, eqSL_rfl a]
  | .lst a => by simp [eqS, eqSL_rfl a]
  | .scr a => by simp [eqS, eqSL_rfl a]
theorem eqSL_rfl : ∀ a : List D, eqSL a a = true
  | [] => by simp [eqSL]
  | x :: xs => by simp [eqSL, eqS_rfl x, eqSL_rfl xs]
end
/-- items that are walked; the cells that must hold still meanwhile -/
structure Src where
  items : List D
  still : List (Nat × List D)
def stillOk : List (Nat × List D) → Sto → Bool
  | [], _ => true
  | (l, ds) :: r, O => (match O[l]? with | some (.lst xs) => eqSL xs ds | _ => false) && stillOk r O
def ItOk (C : Ctx) (g : G) (s : Src) (J : It) : Prop := ∀ g' H' O' (i : Nat), GLe g g' → RepO C g' H' O' → stillOk s.still O' = true →
  (∀ d, s.items[i]? = some d → J.go i H' ∧ ∀ x H2, J.yld i H' x H2 → ∃ g2, Ext g' H' g2 H2 ∧ RepO C g2 H2 O' ∧ Shr C.K g2 d x) ∧ (s.items.length ≤ i → J.stop i H')
instance : Rel Src It := ⟨ItOk, fun e h g' H' O' i e' => h g' H' O' i (e.trans e')⟩
structure DI (C : Ctx) (X : Cx) (W : WX) (tg iter : Expr) (f : Rho → Sto → Res Src) : Prop where
  ex : ∃ wi, PI X tg iter wi ∧ Sat C W wi f
theorem PI.or {tg iter : Expr} {w w' : TI} (h : PI X tg iter w) (h' : PI X tg iter w') : PI X tg iter (fun σ H R => w σ H R ∨ w' σ H R) :=
  ⟨fun pins s σ H R I q => q.elim (h.run pins s σ H R I) (h'.run pins s σ H R I)⟩
/-- a sequence, a text -/
def srcD (d : D) (O : Sto) : Res Src := match d with
  | .str x => .ok ⟨x.map fun c => .str [c], []⟩ O
  | .tup ds => .ok ⟨ds, []⟩ O
  | .lst ds => .ok ⟨ds, []⟩ O
  | .scr ds => .ok ⟨ds, []⟩ O
  | .ob l => match O[l]? with | some (.lst ds) => .ok ⟨ds, [(l, ds)]⟩ O | _ => .bad
  | _ => .bad
def seqI (f : DE0) : Rho → Sto → Res Src := fun r O => (f r O).bind srcD
theorem itl_of {g : G} {a : Addr} {ds : List D} {vs : List V} {st : List (Nat × List D)} (h1 : ∀ g' H' O', GLe g g' → RepO C g' H' O' → stillOk st O' = true → ∃ vs, SqL C.K H' a vs ∧ ShrL C.K g' ds vs) : ItOk C g ⟨ds, st⟩ (Itl C.K a) := by
  intro g' H' O' i le R hs
  obtain ⟨vs, q1, h2⟩ := h1 g' H' O' le R hs
  refine ⟨fun d e => ?_, fun hl => ⟨vs, q1, by rw [shrL_len h2]; exact hl⟩⟩
  obtain ⟨v, e1, e2⟩ := shrL_get h2 e
  refine ⟨⟨vs, v, q1, e1⟩, fun x H2 y => ?_⟩
  obtain ⟨rfl, y⟩ := y
  have := y vs q1
  rw [e1] at this
  cases this
  exact ⟨g', Ext.refl R, R, e2⟩
theorem itt_of {g : G} {a : Addr} {ds : List D} {vs : List V} {st : List (Nat × List D)} (h1 : SqT C.K g.F a vs) (h2 : ShrL C.K g ds vs) : ItOk C g ⟨ds, st⟩ (Itt C.K a) := by
  intro g' H' O' i le R hs
  have q1 := ex_t R.F (ex_t le.F h1)
  refine ⟨fun d e => ?_, fun hl => ⟨vs, q1, by rw [shrL_len h2]; exact hl⟩⟩
  obtain ⟨v, e1, e2⟩ := shrL_get h2 e
  refine ⟨⟨vs, v, q1, e1⟩, fun x H2 y => ?_⟩
  obtain ⟨rfl, y⟩ := y
  have := y vs q1
  rw [e1] at this
  cases this
  exact ⟨g', Ext.refl R, R, e2.mono le⟩
theorem its_of {g : G} {x : List Nat} {st : List (Nat × List D)} : ItOk C g ⟨x.map fun c => .str [c], st⟩ (Its ⟨x.toArray⟩) := by
  intro g' H' O' i le R hs
  refine ⟨fun d e => ?_, fun hl => by show (Array.size _) ≤ i; simpa using hl⟩
  rw [List.getElem?_map] at e
  cases q : x[i]? with
  | none => rw [q] at e; cases e
  | some c =>
    rw [q] at e
    cases e
    refine ⟨by show i < Array.size _; simpa using (List.getElem?_eq_some_iff.mp q).1, fun v H2 y => ?_⟩
    obtain ⟨rfl, c', e1, rfl⟩ := y
    have : c' = c := by
      have e1' : x[i]? = some c' := by simpa using e1
      rw [q] at e1'; cases e1'; rfl
    subst this
    exact ⟨g', Ext.refl R, R, rfl⟩
theorem stillOk_at {l : Nat} {ds : List D} {O : Sto} (h : stillOk [(l, ds)] O = true) : O[l]? = some (.lst ds) := by
  unfold stillOk at h
  simp only [Bool.and_eq_true] at h
  have h := h.1
  split at h
  · rename_i xs e; rw [e, eqSL_eq h]
  · cases h
theorem i_seq {tg : Expr} (hK : X.K = C.K) (he : DE C X W e fe) : DI C X W tg e (seqI fe) :=
  let ⟨_, p, s⟩ := he.ex
  ⟨_, PI.or (pi_list p) (PI.or (pi_tup p) (pi_str p)), fun g σ H r O R S Q h => by
    unfold seqI at h
    cases q : fe r O with
    | bad => rw [q] at h; exact h.elim
    | exc er O1 => exact .inl (s g σ H r O R S _ (by rw [q] at h ⊢; exact h))
    | ok d O1 =>
      rw [q] at h
      have h : Post C W σ g H (srcD d O1) Q := h
      unfold srcD at h
      split at h
      · refine .inr (.inr (ok_seq s R S q fun v g1 H1 e1 R1 S1 s1 => ?_))
        cases s1
        exact ⟨_, rfl, Post.fin R1 its_of (Post.shift e1 h)⟩
      · refine .inr (.inl (ok_seq s R S q fun v g1 H1 e1 R1 S1 s1 => ?_))
        simp only [Shr] at s1
        obtain ⟨a, vs, rfl, h2, h3⟩ := s1
        rw [hK]
        exact ⟨a, rfl, ⟨vs, ex_t R1.F h2⟩, Post.fin R1 (itt_of h2 h3) (Post.shift e1 h)⟩
      · refine .inl (ok_seq s R S q fun v g1 H1 e1 R1 S1 s1 => ?_)
        simp only [Shr] at s1
        obtain ⟨a, vs, rfl, h2, h3⟩ := s1
        rw [hK]
        exact ⟨a, rfl, ⟨vs, SqL.of (R1.F _ _ h2)⟩, Post.fin R1 (itl_of (vs := vs) fun g' H' O' le R' _ => ⟨vs, SqL.of (R'.F _ _ (le.F _ _ h2)), ShrL.mono le _ _ h3⟩) (Post.shift e1 h)⟩
      · refine .inl (ok_seq s R S q fun v g1 H1 e1 R1 S1 s1 => ?_)
        simp only [Shr] at s1
        obtain ⟨a, vs, rfl, h2, h3⟩ := s1
        rw [hK]
        exact ⟨a, rfl, ⟨vs, ex_l R1.F h2⟩, Post.fin R1 (itl_of (vs := vs) fun g' H' O' le R' _ => ⟨vs, ex_l R'.F (ex_l le.F h2), ShrL.mono le _ _ h3⟩) (Post.shift e1 h)⟩
      · rename_i l _
        split at h
        · rename_i ds ec
          refine .inl (ok_seq s R S q fun v g1 H1 e1 R1 S1 s1 => ?_)
          simp only [Shr] at s1
          obtain ⟨rfl, hl⟩ := s1
          obtain ⟨vs, h2, h3⟩ := R1.cell l _ ec
          rw [hK]
          refine ⟨_, rfl, ⟨vs, SqL.of h2⟩, Post.fin R1 (itl_of (vs := vs) fun g' H' O' le R' hs => ?_) (Post.shift e1 h)⟩
          obtain ⟨ws, h4, h5⟩ := R'.cell l _ (stillOk_at hs)
          rw [le.θ l hl] at h4
          exact ⟨ws, SqL.of h4, h5⟩
        · exact h.elim
      · exact h.elim⟩
/-- range -/
def rangeD (i j : Int) : List D := (List.range (j - i).toNat).map fun (k : Nat) => D.int (i + (k : Int))
theorem itr_of {g : G} {i j : Int} {st : List (Nat × List D)} : ItOk C g ⟨rangeD i j, st⟩ (Itr i (j - i).toNat) := by
  intro g' H' O' k le R hs
  unfold rangeD
  refine ⟨fun d e => ?_, fun hl => by show _ ≤ k; simpa using hl⟩
  rw [List.getElem?_map] at e
  cases q : (List.range (j - i).toNat)[k]? with
  | none => rw [q] at e; cases e
  | some c =>
    rw [q] at e
    cases e
    have hk := (List.getElem?_eq_some_iff.mp q)
    obtain ⟨h1, h2⟩ := hk
    rw [List.length_range] at h1
    rw [List.getElem_range] at h2
    subst h2
    refine ⟨h1, fun v H2 y => ?_⟩
    obtain ⟨rfl, rfl⟩ := y
    exact ⟨g', Ext.refl R, R, rfl⟩
def fits (i : Int) : Bool := decide (-4611686018427387904 ≤ i) && decide (i < 4611686018427387904)
def range1F (ds : List D) (O : Sto) : Res Src := match ds with | [.int j] => if fits j then .ok ⟨rangeD 0 j, []⟩ O else .bad | _ => .bad
def range2F (ds : List D) (O : Sto) : Res Src := match ds with | [.int i, .int j] => if fits i && fits j then .ok ⟨rangeD i j, []⟩ O else .bad | _ => .bad
def downD (i j : Int) : List D := (List.range (i - j).toNat).map fun (k : Nat) => D.int (i - (k : Int))
def range3F (ds : List D) (O : Sto) : Res Src := match ds with | [.int i, .int j, .int c] => if fits i && fits j && c == -1 then .ok ⟨downD i j, []⟩ O else .bad | _ => .bad
def callI (f : List D → Sto → Res Src) (fas : Rho → Sto → Res (List D)) : Rho → Sto → Res Src := fun r O => (fas r O).bind f
variable {x : Str} {p : Pos} {es : List Expr} {fas : Rho → Sto → Res (List D)} {tg : Expr}
theorem i_range1 {a : Expr} (hg : Gl X "range") (hm : X.mg "range" = none) (ha : DA C X W [a] fas) (hs : starEach [a] X.env = [(false, eval a X.env)] := by rfl) : DI C X W tg (.Call (.Name "range" p) [a] [] pos) (callI range1F fas) :=
  let ⟨_, pa, sa⟩ := ha.ex
  ⟨_, pi_range1 hg hm pa hs, fun g σ H r O R S Q h => sa.seq R S h fun ds O1 vs g1 H1 e1 R1 S1 s1 h1 => by
    unfold range1F at h1
    split at h1
    · rename_i j
      obtain ⟨v, rfl, sv⟩ := shrL_one s1
      cases sv
      split at h1
      · rename_i hf
        simp only [fits, Bool.and_eq_true, decide_eq_true_eq] at hf
        refine ⟨j, rfl, by have := hf.1; omega, by have := hf.2; omega, Post.fin R1 ?_ h1⟩
        have := itr_of (C := C) (g := g1) (i := 0) (j := j) (st := [])
        rw [Int.sub_zero] at this
        exact this
      · exact h1.elim
    · exact h1.elim⟩
theorem i_range2 {a b : Expr} (hg : Gl X "range") (hm : X.mg "range" = none) (ha : DA C X W [a, b] fas) (hs : starEach [a, b] X.env = [(false, eval a X.env), (false, eval b X.env)] := by rfl) (hs2 : starEach [b] X.env = [(false, eval b X.env)] := by rfl) :
    DI C X W tg (.Call (.Name "range" p) [a, b] [] pos) (callI range2F fas) :=
  let ⟨_, pa, sa⟩ := ha.ex
  ⟨_, pi_range2 hg hm pa hs hs2, fun g σ H r O R S Q h => sa.seq R S h fun ds O1 vs g1 H1 e1 R1 S1 s1 h1 => by
    unfold range2F at h1
    split at h1
    · rename_i i j
      obtain ⟨v, v', rfl, sv, sv'⟩ := shrL_two s1
      cases sv; cases sv'
      split at h1
      · rename_i hf
        simp only [fits, Bool.and_eq_true, decide_eq_true_eq] at hf
        exact ⟨i, j, rfl, ⟨by have := hf.1.1; omega, by have := hf.1.2; omega, by have := hf.2.1; omega, by have := hf.2.2; omega⟩, Post.fin R1 itr_of h1⟩
      · exact h1.elim
    · exact h1.elim⟩
theorem itc_of {g : G} {i j : Int} {st : List (Nat × List D)} : ItOk C g ⟨downD i j, st⟩ (Itc i (-1) (i - j).toNat) := by
  intro g' H' O' k le R hs
  unfold downD
  refine ⟨fun d e => ?_, fun hl => by show _ ≤ k; simpa using hl⟩
  rw [List.getElem?_map] at e
  cases q : (List.range (i - j).toNat)[k]? with
  | none => rw [q] at e; cases e
  | some c =>
    rw [q] at e
    cases e
    have hk := (List.getElem?_eq_some_iff.mp q)
    obtain ⟨h1, h2⟩ := hk
    rw [List.length_range] at h1
    rw [List.getElem_range] at h2
    subst h2
    refine ⟨h1, fun v H2 y => ?_⟩
    obtain ⟨rfl, rfl⟩ := y
    refine ⟨g', Ext.refl R, R, ?_⟩
    show V.int _ = V.int _
    congr 1
    omega
theorem shrL_three {K : PySem.W.Frag} {g : G} {d d' d'' : D} {vs : List V} (h : ShrL K g [d, d', d''] vs) : ∃ v v' v'', vs = [v, v', v''] ∧ Shr K g d v ∧ Shr K g d' v' ∧ Shr K g d'' v'' := by
  simp only [ShrL] at h
  obtain ⟨v, r, rfl, h2, w, r', rfl, h3, u, r'', rfl, h4, rfl⟩ := h
  exact ⟨v, w, u, rfl, h2, h3, h4⟩
theorem i_range3 {a b c : Expr} (hg : Gl X "range") (hm : X.mg "range" = none) (ha : DA C X W [a, b, c] fas) (hs : starEach [a, b, c] X.env = (false, eval a X.env) :: starEach [b, c] X.env := by rfl) (hpl : (backTo pos (starEach [b, c] X.env)).any (·.1) = false := by rfl) :
    DI C X W tg (.Call (.Name "range" p) [a, b, c] [] pos) (callI range3F fas) :=
  let ⟨_, pa, sa⟩ := ha.ex
  ⟨_, pi_range3 hg hm pa hs hpl, fun g σ H r O R S Q h => sa.seq R S h fun ds O1 vs g1 H1 e1 R1 S1 s1 h1 => by
    unfold range3F at h1
    split at h1
    · rename_i i j c
      obtain ⟨v, v', v'', rfl, sv, sv', sv''⟩ := shrL_three s1
      cases sv; cases sv'; cases sv''
      split at h1
      · rename_i hf
        simp only [fits, Bool.and_eq_true, decide_eq_true_eq, beq_iff_eq] at hf
        obtain ⟨⟨f1, f2⟩, rfl⟩ := hf
        exact ⟨i, j, -1, _, rfl, RgC.neg (by have := f1.1; omega) (by have := f1.2; omega) (by have := f2.1; omega) (by have := f2.2; omega), Post.fin R1 itc_of h1⟩
      · exact h1.elim
    · exact h1.elim⟩
/-! ### for -/
def forL (t : TG0) (b : DS0) (st : List (Nat × List D)) : List D → Rho → Sto → SR
  | [], r, O => if stillOk st O then .nx r O else .bad
  | d :: ds, r, O => if stillOk st O then (match t d r O with
      | none => .bad
      | some (r1, O1) => match b r1 O1 with
        | .nx r2 O2 => forL t b st ds r2 O2 | .ct r2 O2 => forL t b st ds r2 O2 | .bk r2 O2 => .nx r2 O2 | .ret d O2 => .ret d O2 | .exc e r2 O2 => .exc e r2 O2 | .bad => .bad) else .bad
def forS (src : Rho → Sto → Res Src) (t : TG0) (b : DS0) : DS0 := fun r O => (src r O).bindS r fun s O1 => forL t b s.still s.items r O1
theorem s_for {iter : Expr} {body : List Stmt} {src : Rho → Sto → Res Src} {own : List Nat} {t : TG0} (hp : PassesOwn (model X.prog X.w) X.A X.env X.xe) (hc : X.calm = true) (hi : DI C X W tg iter src) (hg : DG C X tg own t) (hb : DSs C X W body f) (hs : ∀ x, foldedSetIterable iter X.env x = pure x := by intro _; rfl) :
    DS C X W (.For tg iter body [] pos) (forS src t f) :=
  let ⟨_, p, s⟩ := hi.ex; let ⟨_, q, u⟩ := hg.ex; let ⟨_, pb, sb⟩ := hb.ex
  ⟨_, ps_for hp hc p q pb (hs := hs), fun g0 σ0 H0 r0 O0 R0 S0 E h0 => s.seqS R0 S0 h0 fun sr O1 J g1 H1 e1 R1 S1 j1 h1 => by
    have j1 : ItOk C g1 sr J := j1
    refine ⟨fun i m σ H => m = sr.items.length - i ∧ i ≤ sr.items.length ∧ ∃ g r O, GLe g1 g ∧ RepO C g H O ∧ RepS C g σ r ∧ PostS C W g H (forL t f sr.still (sr.items.drop i) r O) E, ⟨_, rfl, Nat.zero_le _, g1, r0, O1, GLe.refl _, R1, S1, h1⟩, ?_⟩
    rintro i m σ H ⟨rfl, hi, g, r, O, le, R, S, h⟩
    by_cases hlt : i < sr.items.length
    · obtain ⟨d, hd⟩ : ∃ d, sr.items[i]? = some d := ⟨_, List.getElem?_eq_getElem hlt⟩
      have hdrop : sr.items.drop i = d :: sr.items.drop (i + 1) := by
        rw [List.drop_eq_getElem_cons hlt]
        congr 1
        rw [List.getElem?_eq_getElem hlt] at hd
        exact Option.some.inj hd
      rw [hdrop] at h
      unfold forL at h
      split at h
      · rename_i hst
        obtain ⟨k1, _⟩ := j1 g H O i le R hst
        obtain ⟨k1, k2⟩ := k1 d hd
        refine .inr ⟨k1, fun σ' H' => ∃ g r O, GLe g1 g ∧ RepO C g H' O ∧ RepS C g σ' r ∧ PostS C W g H' (forL t f sr.still (sr.items.drop (i + 1)) r O) E, fun σ' H' hh => ⟨_, ?_, rfl, hlt, hh⟩, fun x H2 y => ?_⟩
        · omega
        obtain ⟨g2, e2, R2, s2⟩ := k2 x H2 y
        refine u g2 σ H2 r O R2 (S.mono e2.le) d x s2 _ ?_
        cases z : t d r O with
        | none => rw [z] at h; exact h.elim
        | some y =>
          obtain ⟨r1, O3⟩ := y
          rw [z] at h
          intro σ3 g3 H3 e3 R3 S3 _
          refine sb g3 σ3 H3 r1 O3 R3 S3 _ ?_
          have h := PostS.shift (e2.trans e3) h
          cases z2 : f r1 O3 with
          | nx r2 O2 => simp only [z2] at h; exact fun σ4 g4 H4 e4 R4 S4 => ⟨g4, r2, O2, le.trans (e2.le.trans (e3.le.trans e4.le)), R4, S4, PostS.shift e4 h⟩
          | ct r2 O2 => simp only [z2] at h; exact fun σ4 g4 H4 e4 R4 S4 => ⟨g4, r2, O2, le.trans (e2.le.trans (e3.le.trans e4.le)), R4, S4, PostS.shift e4 h⟩
          | bk r2 O2 => simp only [z2] at h; exact h
          | ret d O2 => simp only [z2] at h; exact h
          | exc e r2 O2 => simp only [z2] at h; exact h
          | bad => simp only [z2] at h; exact h
      · exact h.elim
    · have hi' : i = sr.items.length := by omega
      subst hi'
      rw [List.drop_length] at h
      unfold forL at h
      split at h
      · rename_i hst
        obtain ⟨_, k2⟩ := j1 g H O _ le R hst
        exact .inl ⟨k2 (Nat.le_refl _), h σ g H (Ext.refl R) R S⟩
      · exact h.elim⟩
/-! ### list comprehensions -/
def lcL (t : TG0) (c : Rho → Sto → Res Bool) (el : DE0) (st : List (Nat × List D)) (r : Rho) : List D → List D → Sto → Res (List D)
  | [], acc, O => if stillOk st O then .ok acc O else .bad
  | d :: ds, acc, O => if stillOk st O then (match t d r O with
      | none => .bad
      | some (r1, O1) => match c r1 O1 with
        | .ok true O2 => (match el r1 O2 with
          | .ok y O3 => if acc.length < sizeLine then lcL t c el st r ds (acc ++ [y]) O3 else .bad
          | _ => .bad)
        | .ok false O2 => lcL t c el st r ds acc O2
        | _ => .bad) else .bad
def yesT : Rho → Sto → Res Bool := fun _ O => .ok true O
def lcE (m : Bool) (src : Rho → Sto → Res Src) (t : TG0) (c : Rho → Sto → Res Bool) (el : DE0) (own : List Nat) : DE0 := fun r O => (src r O).bind fun s O1 => (lcL t c el s.still (wipeR r own) s.items [] O1).bind fun ds O2 => mkL m ds O2
structure DTs (C : Ctx) (X : Cx) (W : WX) (ifs : List Expr) (f : Rho → Sto → Res Bool) : Prop where
  ex : ∃ te, PTs X ifs te ∧ Sat C W te f
theorem ts_nil : DTs C X W [] yesT := ⟨_, pts_nil, fun g σ H r O R S Q h => Post.fin R rfl h⟩
theorem ts_one (h : DT C X W c ft) : DTs C X W [c] ft := let ⟨_, p, s⟩ := h.ex; ⟨_, pts_one p, s⟩
/-- a fresh thing that is no cell, whatever stands there -/
theorem Ext.over {g g' : G} {H H' : Hp} (e : Ext g H g' H') {p : Addr} {o : HO} (hp : H p = none) (hc : ∀ l, l < g.n → g.θ l ≠ p) : Ext g H g' (upd H' p o) :=
  ⟨e.le, fun a u q n => by rw [upd_ne (ne_of_none q hp)]; exact e.keep a u q n, e.new, fun l hl => by rw [upd_ne (hc l hl)]; exact e.trk l hl, e.frz⟩
theorem RepO.over {g : G} {H : Hp} {O : Sto} (R : RepO C g H O) {p : Addr} {o : HO} (hF : g.F p = none) (hc : ∀ l, l < g.n → g.θ l ≠ p) : RepO C g (upd H p o) O :=
  ⟨R.n, fun a u q => by rw [upd_ne fun z => by rw [z, hF] at q; cases q]; exact R.F a u q, fun l c q => (R.cell l c q).heap (by
    have hl : l < g.n := by rw [R.n]; exact (List.getElem?_eq_some_iff.mp q).1
    rw [upd_ne (hc l hl)]), R.fresh, R.inj⟩
theorem RepO.adopt {g : G} {H : Hp} {O : Sto} (R : RepO C g H O) {p : Addr} {o : HO} (hF : g.F p = none) (hH : H p = some o) (hc : ∀ l, l < g.n → g.θ l ≠ p) : RepO C (g.frz p o) H O := by
  have le := GLe.frz (g := g) (o := o) hF
  refine ⟨R.n, fun a u e => ?_, fun l c e => (R.cell l c e).mono le, fun l hl => ?_, R.inj⟩
  · by_cases q : a = p
    · subst q
      have e' : upd g.F a o a = some u := e
      rw [upd_same] at e'; rw [hH]; exact e'
    · have e' : upd g.F p o a = some u := e
      rw [upd_ne q] at e'
      exact R.F a u e'
  · show upd g.F p o (g.θ l) = none
    rw [upd_ne (hc l hl)]; exact R.fresh l hl
theorem Ext.adopt {g g' : G} {H H' : Hp} (e : Ext g H g' H') {p : Addr} {o : HO} (hp : H p = none) (hF : g'.F p = none) : Ext g H (g'.frz p o) H' :=
  ⟨e.le.trans (GLe.frz hF), e.keep, e.new, e.trk, fun a u q => by
    by_cases z : a = p
    · subst z; exact .inr hp
    · have q' : upd g'.F p o a = some u := q
      rw [upd_ne z] at q'
      exact e.frz a u q'⟩
theorem RepO.adoptC {g : G} {H : Hp} {O : Sto} (R : RepO C g H O) {p : Addr} {c : Cell} (hF : g.F p = none) (hc : ∀ l, l < g.n → g.θ l ≠ p) (new : CellOk C (g.add p) H p c) : RepO C (g.add p) H (O ++ [c]) := by
  refine ⟨by show g.n + 1 = _; simp [R.n], R.F, fun l c' e => ?_, fun l hl => ?_, fun i j hi hj e => ?_⟩
  · by_cases q : l < g.n
    · rw [List.getElem?_append_left (by rw [← R.n]; exact q)] at e
      rw [G.add_ne q]
      exact (R.cell l c' e).mono GLe.add
    · have hl : l < (O ++ [c]).length := (List.getElem?_eq_some_iff.mp e).1
      simp at hl
      have el : l = g.n := by have := R.n; omega
      subst el
      rw [G.add_at]
      rw [R.n, List.getElem?_concat_length] at e
      cases e
      exact new
  · by_cases q : l < g.n
    · rw [G.add_ne q]; exact R.fresh l q
    · have hl : l < g.n + 1 := hl
      have el : l = g.n := by omega
      subst el
      rw [G.add_at]
      exact hF
  · have hi : i < g.n + 1 := hi
    have hj : j < g.n + 1 := hj
    by_cases qi : i < g.n
    · by_cases qj : j < g.n
      · rw [G.add_ne qi, G.add_ne qj] at e
        exact R.inj i j qi qj e
      · have ej : j = g.n := by omega
        subst ej
        rw [G.add_ne qi, G.add_at] at e
        exact absurd e (hc i qi)
    · have ei : i = g.n := by omega
      subst ei
      by_cases qj : j < g.n
      · rw [G.add_ne qj, G.add_at] at e
        exact absurd e.symm (hc j qj)
      · omega
theorem Ext.adoptC {g g' : G} {H H' : Hp} (e : Ext g H g' H') {p : Addr} (hp : H p = none) : Ext g H (g'.add p) H' :=
  ⟨e.le.trans GLe.add, e.keep, fun l h h' => by
    by_cases q : l < g'.n
    · rw [G.add_ne q]; exact e.new l h q
    · have h' : l < g'.n + 1 := h'
      have el : l = g'.n := by omega
      subst el
      rw [G.add_at]; exact hp, e.trk, e.frz⟩
/-- what stands at q0: the list so far -/
structure LcAt (C : Ctx) (g1 : G) (H1 : Hp) (q0 : Addr) (g : G) (H : Hp) (O : Sto) (acc : List D) : Prop where
  ext : Ext g1 H1 g H
  rep : RepO C g H O
  F : g.F q0 = none
  c : ∀ l, l < g.n → g.θ l ≠ q0
  at' : ∃ vs, H q0 = some (.lst vs) ∧ ShrL C.K g acc vs
theorem LcAt.next {g1 g g' : G} {H1 H H' : Hp} {q0 : Addr} {O O' : Sto} {acc : List D} (L : LcAt C g1 H1 q0 g H O acc) (e : Ext g H g' H') (R : RepO C g' H' O') : LcAt C g1 H1 q0 g' H' O' acc := by
  obtain ⟨vs, h1, h2⟩ := L.at'
  have hD : H q0 ≠ none := by rw [h1]; exact fun z => nomatch z
  refine ⟨L.ext.trans e, R, ?_, fun l hl z => ?_, vs, e.keep q0 _ h1 L.c, ShrL.mono e.le _ _ h2⟩
  · cases q : g'.F q0 with
    | none => rfl
    | some o =>
      rcases e.frz q0 o q with z | z
      · rw [L.F] at z; cases z
      · exact absurd z hD
  · by_cases q : l < g.n
    · rw [e.le.θ l q] at z; exact L.c l q z
    · have := e.new l (Nat.le_of_not_lt q) hl
      rw [z] at this
      exact hD this
theorem LcAt.push {g1 g : G} {H1 H : Hp} {q0 : Addr} {O : Sto} {acc : List D} {d : D} {v : V} {vs : List V} (L : LcAt C g1 H1 q0 g H O acc) (hp : H1 q0 = none) (hc1 : ∀ l, l < g1.n → g1.θ l ≠ q0) (h : H q0 = some (.lst vs)) (sv : ShrL C.K g acc vs) (s : Shr C.K g d v) :
    LcAt C g1 H1 q0 g (upd H q0 (.lst (vs ++ [v]))) O (acc ++ [d]) := by
  refine ⟨Ext.over L.ext hp hc1, RepO.over L.rep L.F L.c, L.F, L.c, vs ++ [v], upd_same, shrL_append sv ?_⟩
  simp only [ShrL]
  exact ⟨v, [], rfl, s, rfl⟩
theorem wipe_out' {i : Nat} : ∀ (ws : List Nat) (σ : L2.St), i ∉ ws → wipe (σ.set i none) ws = (wipe σ ws).set i none
  | [], _, _ => rfl
  | a :: ws, σ, hk => by
    simp only [List.mem_cons, not_or] at hk
    show (wipe (σ.set i none) ws).set a none = ((wipe σ ws).set a none).set i none
    rw [wipe_out' ws σ hk.2, List.set_comm _ _ hk.1]
theorem wipe_idem : ∀ (ws : List Nat) (σ : L2.St), wipe (wipe σ ws) ws = wipe σ ws
  | [], _ => rfl
  | k :: ks, σ => by
    show (wipe ((wipe σ ks).set k none) ks).set k none = (wipe σ ks).set k none
    by_cases e : k ∈ ks
    · rw [set_wipe e, wipe_idem ks]
    · rw [wipe_out' ks _ e, wipe_idem ks, List.set_set]
theorem lc_sat {wi : TI} {src : Rho → Sto → Res Src} {tgr : TG} {t : TG0} {tt : TT} {te : TE} {cf : Rho → Sto → Res Bool} {el : DE0} {own own' : List Nat} {m : Bool}
    (s : Sat C W wi src) (u : SatG C own' tgr t) (hown : ∀ i ∈ own', i ∈ own) (sc : Sat C (fun _ _ _ _ => False) tt cf) (se : Sat C (fun _ _ _ _ => False) te el) : Sat C W (tLc wi tgr tt te own) (lcE m src t cf el own) := fun g0 σ0 H0 r0 O0 R0 S0 Q h0 =>
  s.seq R0 S0 h0 fun sr O1 J g1 H1 e1 R1 S1 j1 h1 => by
    have j1 : ItOk C g1 sr J := j1
    intro D hD
    have hc1 : ∀ l, l < g1.n → g1.θ l ≠ D := fun l hl => R1.ne hD hl
    have Sw := S1.wipe own
    refine ⟨fun i m' H => m' = sr.items.length - i ∧ i ≤ sr.items.length ∧ ∃ g O acc, LcAt C g1 H1 D g H O acc ∧ Post C W σ0 g1 H1 ((lcL t cf el sr.still (wipeR r0 own) (sr.items.drop i) acc O).bind fun ds O2 => mkL m ds O2) Q,
      ⟨_, rfl, Nat.zero_le _, g1, O1, [], ⟨Ext.over (Ext.refl R1) hD hc1, RepO.over R1 (R1.Fnone hD) hc1, R1.Fnone hD, hc1, [], upd_same, by simp [ShrL]⟩, h1⟩, ?_⟩
    rintro i m' H ⟨rfl, hi, g, O, acc, L, h⟩
    by_cases hlt : i < sr.items.length
    · obtain ⟨d, hd⟩ : ∃ d, sr.items[i]? = some d := ⟨_, List.getElem?_eq_getElem hlt⟩
      have hdrop : sr.items.drop i = d :: sr.items.drop (i + 1) := by
        rw [List.drop_eq_getElem_cons hlt]
        congr 1
        rw [List.getElem?_eq_getElem hlt] at hd
        exact Option.some.inj hd
      rw [hdrop] at h
      unfold lcL at h
      split at h
      · rename_i hst
        obtain ⟨k1, _⟩ := j1 g H O i L.ext.le L.rep hst
        obtain ⟨k1, k2⟩ := k1 d hd
        refine .inr ⟨k1, fun H' => ∃ g O acc, LcAt C g1 H1 D g H' O acc ∧ Post C W σ0 g1 H1 ((lcL t cf el sr.still (wipeR r0 own) (sr.items.drop (i + 1)) acc O).bind fun ds O2 => mkL m ds O2) Q, fun H' hh => ⟨_, ?_, rfl, hlt, hh⟩, fun x H2 y => ?_⟩
        · omega
        obtain ⟨g2, e2, R2, s2⟩ := k2 x H2 y
        have L2 := L.next e2 R2
        refine u g2 _ H2 _ O R2 (Sw.mono (L2.ext.le)) d x s2 _ ?_
        cases z : t d (wipeR r0 own) O with
        | none => rw [z] at h; exact h.elim
        | some y =>
          obtain ⟨r1, O3⟩ := y
          rw [z] at h
          intro σ3 g3 H3 e3 R3 S3 w3
          refine ⟨?_, ?_⟩
          · rw [w3 own hown]
            exact wipe_idem own σ0
          have L3 := L2.next e3 R3
          refine sc g3 σ3 H3 r1 O3 R3 S3 _ ?_
          cases z2 : cf r1 O3 with
          | bad => simp only [z2] at h; exact h.elim
          | exc er O4 => simp only [z2] at h; exact h.elim
          | ok b O4 =>
            simp only [z2] at h
            intro b' g4 H4 e4 R4 sb
            cases sb
            have L4 := L3.next e4 R4
            cases b with
            | false => exact ⟨g4, O4, acc, L4, h⟩
            | true =>
              simp only at h
              rw [if_pos rfl]
              refine se g4 σ3 H4 r1 O4 R4 (S3.mono e4.le) _ ?_
              cases z3 : el r1 O4 with
              | bad => simp only [z3] at h; exact h.elim
              | exc er O5 => simp only [z3] at h; exact h.elim
              | ok y O5 =>
                simp only [z3] at h
                intro v g5 H5 e5 R5 s5
                have L5 := L4.next e5 R5
                obtain ⟨vs, a1, a2⟩ := L5.at'
                split at h
                · rename_i hz
                  exact ⟨vs, a1, by rw [shrL_len a2]; exact hz, g5, O5, acc ++ [y], L5.push hD hc1 a1 a2 s5, h⟩
                · exact h.elim
      · exact h.elim
    · have hi' : i = sr.items.length := by omega
      subst hi'
      rw [List.drop_length] at h
      unfold lcL at h
      split at h
      · rename_i hst
        obtain ⟨_, k2⟩ := j1 g H O _ L.ext.le L.rep hst
        refine .inl ⟨k2 (Nat.le_refl _), ?_⟩
        have h : Post C W σ0 g1 H1 (mkL m acc O) Q := h
        obtain ⟨vs, a1, a2⟩ := L.at'
        cases m with
        | false =>
          refine h _ (g.frz D (.lst vs)) H (L.ext.adopt hD L.F) (L.rep.adopt L.F a1 L.c) ?_
          show Shr _ _ (.lst acc) _
          simp only [Shr]
          exact ⟨D, vs, rfl, upd_same, ShrL.mono (GLe.frz L.F) _ _ a2⟩
        | true =>
          refine h _ (g.add D) H (L.ext.adoptC hD) (L.rep.adoptC L.F L.c ⟨vs, a1, ShrL.mono GLe.add _ _ a2⟩) ?_
          show Shr _ _ (.ob O.length) _
          simp only [Shr]
          rw [← L.rep.n, G.add_at]
          exact ⟨rfl, Nat.lt_succ_self _⟩
      · exact h.elim
end
end Dn
set_option Elab.async false
set_option linter.all false
set_option maxRecDepth 100000
set_option maxHeartbeats 2000000
/-! enumerate over a tuple -/
namespace PySem
open AutoSeq1 (wpAny_loadPart')
theorem meets_enumerate_newT (l : Addr) (items : Array Value) (n : Nat) (dct : Option Addr) (sl : Array (Option Value)) :
    Meets (Builtin.«enumerate.__new__» ⟨[.type "enumerate", .ref l], []⟩) (fun _ R s => s.heap.get? l = some { cls := .type "tuple", dict := dct, data := .seq items n, slots := sl } ∧
      R (.ok (.ret (.ref (s.heap.push { cls := .type "tuple_iterator", data := .fields #[.ref l, .int 0 0] }).objs.size)))
        { s with heap := (s.heap.push { cls := .type "tuple_iterator", data := .fields #[.ref l, .int 0 0] }).push { cls := .type "enumerate", data := .fields #[.none, .bool false, .ref s.heap.objs.size, rawInt 0, .none, .none] } }) :=
  .of_wp fun prog w A R s h => by
    obtain ⟨hp, g, d, tk, os⟩ := s; obtain ⟨hl, h⟩ := h
    have hsub := sub_enumerate
    have hL : Heap.IsTuple (Shared.heap ⟨hp, g, d, tk, os⟩) l items := ⟨_, hl, rfl, n, rfl⟩
    wp_walk using wpAny_loadPart' hl
    refine wpAny_stack_any fun st => wpAny_pure ?_
    split
    · rename_i c _ _ _ _ _
      cases (c == Value.type "enumerate")
      · wp_walk using wpAny_loadPart' hl, wpAny_pyIter_tuple hL
        exact ⟨_, rfl, h⟩
      · wp_walk using wpAny_loadPart' hl, wpAny_pyIter_tuple hL
        exact ⟨_, rfl, h⟩
    · wp_walk using wpAny_loadPart' hl, wpAny_pyIter_tuple hL
      exact ⟨_, rfl, h⟩
theorem call_enumerate_tuple {prog : Program} {w : World} {A : Around} {E : Value → Shared → Prop} {s : Shared} {l : Addr} {items : Array Value} {Q : Value → Shared → Prop} (hL : s.heap.IsTuple l items)
    (h : ∀ h', IsEnum h' (s.heap.objs.size + 1) s.heap.objs.size 0 .none → h'.IsTupleIter s.heap.objs.size l 0 → h'.objs.size = s.heap.objs.size + 2 →
      (∀ b o, s.heap.get? b = some o → h'.get? b = some o) → Q (.ref (s.heap.objs.size + 1)) { s with heap := h' }) :
    wpAny (model prog w) A (call (.type "enumerate") [.ref l]) Q E s := by
  obtain ⟨⟨c, dct, dt, sl⟩, hl, hc, n, hd⟩ := hL
  replace hc : c = .type "tuple" := hc
  replace hd : dt = .seq items n := hd
  subst hc hd
  refine callType_new F.called_enumerate (by decide) (F.typeCall_enumerate_1 _) (F.newCall_enumerate_1 _) (fun obj => F.args_object_init_2 obj _) F.entry_enumerate_new
    (meets_enumerate_newT l items n dct sl) ⟨hl, ?_⟩
  have hz : (s.heap.push { cls := .type "tuple_iterator", data := .fields #[.ref l, .int 0 0] }).objs.size = s.heap.objs.size + 1 := Heap.size_push ..
  show _ ∧ _
  rw [hz]
  have he : IsEnum ((s.heap.push { cls := .type "tuple_iterator", data := .fields #[.ref l, .int 0 0] }).push
      { cls := .type "enumerate", data := .fields #[.none, .bool false, .ref s.heap.objs.size, rawInt 0, .none, .none] }) (s.heap.objs.size + 1) s.heap.objs.size 0 .none := by
    have := Heap.get?_push_size (s.heap.push { cls := .type "tuple_iterator", data := .fields #[.ref l, .int 0 0] })
      (o := { cls := .type "enumerate", data := .fields #[.none, .bool false, .ref s.heap.objs.size, rawInt 0, .none, .none] }) rfl
    rw [hz] at this; exact this
  refine ⟨⟨_, he, rfl⟩, h _ he ⟨_, Heap.get?_push_of_some _ (Heap.get?_push_size _ rfl), rfl, rfl⟩ (by rw [Heap.size_push, hz]) fun b o x => Heap.get?_push_of_some _ (Heap.get?_push_of_some _ x)⟩
end PySem
namespace Dn
open PySem PySem.Spec PyProof.Rows L2
/-- the tuple at a as it stands at each turn, each item in a new pair -/
def IteT (K : PySem.W.Frag) (a : Addr) : It :=
  ⟨fun i H => ∃ (xs : List V) (x : V), SqT K H a xs ∧ xs[i]? = some x, fun i H v H' => ∃ T x, v = .ref T ∧ H T = none ∧ H' = upd H T (.tup [.int (i : Nat), x]) ∧ ∀ xs, SqT K H a xs → xs[i]? = some x, fun i H => ∃ xs : List V, SqT K H a xs ∧ xs.length ≤ i⟩
theorem turn_enumT {P : Program} {w : World} {K : PySem.W.Frag} {elts : List Expr} {kk : Nat} {tpos : Pos} (a e it : Addr) :
    Turn P w K (.Tuple elts kk tpos) (IteT K a) [e, it] e (fun i h => (∃ old, IsEnum h e it ((i : Nat) : Int) old) ∧ h.IsTupleIter it a i ∧ e ≠ it ∧ a ≠ it ∧ a ≠ e) where
  mem := by simp
  obj := fun i h st b hb => by
    obtain ⟨⟨old, he⟩, ⟨o, ho, hc, hd⟩, _⟩ := st
    have e' : b = e ∨ b = it := by simpa using hb
    rcases e' with z | z
    · rw [z]; exact ⟨_, he, fun v q => nomatch q⟩
    · rw [z]; exact ⟨o, ho, fun v q => by rw [hd] at q; cases q⟩
  keep := fun i h h' st k => let ⟨⟨old, he⟩, hi, hne⟩ := st; ⟨⟨old, k e (by simp) _ he⟩, hi.at fun o q => k it (by simp) o q, hne⟩
  item := by
    intro X hP hw hK hc i pins s σ H E I hf st hg
    subst hP hw hK
    obtain ⟨⟨old, he⟩, hit, hne, hne2, hne3⟩ := st
    obtain ⟨xs, x, hq, hx⟩ := hg
    obtain ⟨its, rv, p, hz⟩ := I.tuple hq
    obtain ⟨u, hu, ru⟩ := rv.get hx
    have hp : s.heap.IsTuple a its.toArray := p
    have hel : e < s.heap.objs.size := Heap.lt_size he
    have hil : it < s.heap.objs.size := by obtain ⟨_, q, _⟩ := hit; exact Heap.lt_size q
    have hlt : i < its.toArray.size := by
      have := (List.getElem?_eq_some_iff.mp hu).1
      simpa using this
    refine wpAny_pyNext_enum_itemD (Draws.tuple (A := X.A.in1) (show X.A.in1.handled = none from I.ok.hd hc) it a hne2 its.toArray) he ⟨hit, hp⟩ hlt hne (by simp; exact ⟨hne, fun z => hne3 z.symm⟩) fun x' h' tk hP ho hst hT hsz hk => ?_
    have hxu : x' = u := by
      have hP : its.toArray[i]? = some x' := hP
      have h1 : its.toArray[i]? = some u := by simpa using hu
      rw [h1] at hP; cases hP; rfl
    subst hxu
    refine ⟨_, rfl, wpAny_letOwnedTupleGo_enum (s := { s with heap := h', toks := tk + 1 }) ho fun h'' he' sb => ?_⟩
    have hT2 : h''.get? s.heap.objs.size = some { cls := .type "tuple", data := .seq #[.int i tk, x'] } := (sb.2 _ (Nat.ne_of_gt hel)).trans hT
    have new : ObjOk X.prog X.w (upd H s.heap.objs.size (.tup [.int (i : Nat), x])) h'' s.heap.objs.size (.tup [.int (i : Nat), x]) :=
      ⟨by show 2 ≤ sizeLine; decide, [.int i tk, x'], .cons ⟨_, rfl⟩ (.cons ru .nil), ⟨_, hT2, rfl, _, rfl⟩⟩
    have I1 : Inv X pins σ (upd H s.heap.objs.size (.tup [.int (i : Nat), x])) { s with heap := h'', toks := tk + 1 } :=
      I.turnedNew (ch := [e, it]) (fun b ob hb q => (sb.2 b (fun z => hb (by simp [z]))).trans (hk b ob (fun z => hb (by simp [z])) (fun z => hb (by simp [z])) q)) hf (Nat.le_refl _) new
    refine ⟨.ref s.heap.objs.size, _, I1, rfl, ⟨_, x, rfl, I.hok.fresh (Nat.le_refl _), rfl, fun ys hy => by rw [I.tuple_inj hy hq]; exact hx⟩, ⟨⟨x', ?_⟩, hst.1.at fun o q => (sb.2 it (Ne.symm hne)).trans q, hne, hne2, hne3⟩, fun b hb => ?_⟩
    · have e1 : ((i + 1 : Nat) : Int) = (i : Int) + 1 := by omega
      rw [e1]; exact he'
    · have hb' : b < s.heap.objs.size := by
        have e' : b = e ∨ b = it := by simpa using hb
        rcases e' with z | z
        · rw [z]; exact hel
        · rw [z]; exact hil
      rw [upd_ne (Nat.ne_of_lt hb')]
      exact (hf b hb).1
  done := by
    intro X hP hw hK hc i pins s σ H E I hf st hg
    subst hP hw hK
    obtain ⟨⟨old, he⟩, hit, hne, hne2, hne3⟩ := st
    obtain ⟨xs, hq, hx⟩ := hg
    obtain ⟨its, rv, p, hz⟩ := I.tuple hq
    obtain ⟨f0, f1, f2, f3, f4, f5⟩ := hf it (by simp)
    have hl := rv.length
    have hp : s.heap.IsTuple a its.toArray := p
    have D : Draws X.prog X.w X.A.in1 it [it, a] i (fun _ _ => True) (fun j h => j = i ∧ h.IsTupleIter it a i ∧ h.IsTuple a its.toArray) :=
      { live := fun _ _ st => let ⟨o, ho, _⟩ := st.2.1; ⟨o, ho⟩
        frame := fun _ _ _ st hk => ⟨st.1, st.2.1.at fun o e => hk it (by simp) o e, st.2.2.at fun o e => hk a (by simp) o e⟩
        item := fun j s Q E hi st hQ => absurd hi (by rw [st.1]; exact Nat.lt_irrefl _)
        done := fun s Q E st hE => wpAny_nextOf_tuple_end (show X.A.in1.handled = none from I.ok.hd hc) st.2.1 st.2.2 (by simp; omega) hE }
    exact wpAny_pyNext_enum_endD D he ⟨rfl, hit, hp⟩ fun h' eb => ⟨rfl, I.turned (t' := s.toks) (fun b o hb q => eb b o hb q) f0 f1 f3 f4 f5⟩
  self := fun A i s Q E st h => let ⟨⟨_, he⟩, _⟩ := st; wpAny_pyIter_enum he h
def iEnumT (K : PySem.W.Frag) (ta : TA) : TI := fun σ H R => ta σ H fun vs H1 => ∃ a xs, vs = [.ref a] ∧ SqT K H1 a xs ∧ R (IteT K a) H1
theorem pi_enumT {X : Cx} {e : Expr} {ta : TA} {p pos tpos : Pos} {elts : List Expr} {kk : Nat} (hg : Gl X "enumerate") (hm : X.mg "enumerate" = none) (ha : PA X [e] ta) (hs : starEach [e] X.env = [(false, eval e X.env)] := by rfl) :
    PI X (.Tuple elts kk tpos) (.Call (.Name "enumerate" p) [e] [] pos) (iEnumT X.K ta) := by
  refine ⟨fun pins s σ H R I h => ?_⟩
  refine Call_ (ld_blt I hg hm boot_enumerate (PyProof.Rows.callWith_type1 (thn (ha.run pos pins s σ H _ I h) fun us s1 ⟨vs, H1, I1, r1, q1⟩ => ?_) hs rfl))
  obtain ⟨a, xs, ex, hq, q⟩ := q1
  subst ex
  cases r1 with
  | cons r rr =>
    cases rr
    cases r
    obtain ⟨its, rv, p', hz⟩ := I1.tuple hq
    have hp : s1.heap.IsTuple a its.toArray := p'
    have hal : a < s1.heap.objs.size := by obtain ⟨o, ho, _⟩ := hp; exact Heap.lt_size ho
    refine call_enumerate_tuple hp fun h' he hit hsz hk => wpAny_pyIter_enum he ?_
    have I2 : Inv X pins σ H1 { s1 with heap := h' } := I1.kept (t' := s1.toks) hk
    refine ⟨s1.heap.objs.size + 1, [s1.heap.objs.size + 1, s1.heap.objs.size], _, _, H1, rfl, I2, turn_enumT a (s1.heap.objs.size + 1) s1.heap.objs.size, ⟨⟨.none, he⟩, hit, Nat.succ_ne_self _, Nat.ne_of_lt hal, Nat.ne_of_lt (Nat.lt_succ_of_lt hal)⟩, fun b hb => ?_, q⟩
    have e' : b = s1.heap.objs.size + 1 ∨ b = s1.heap.objs.size := by simpa using hb
    have hle : s1.heap.objs.size ≤ b := by
      rcases e' with z | z
      · rw [z]; exact Nat.le_add_right _ _
      · rw [z]; exact Nat.le_refl _
    exact I1.fpOk hle (I1.hok.fresh hle)
end Dn
set_option Elab.async false
set_option linter.all false
set_option maxRecDepth 100000
set_option maxHeartbeats 2000000
namespace Dn
open PySem PySem.Spec PyProof.Rows L2
section
variable {C : Ctx} {X : Cx} {W : WX}
/-- no error is wished for -/
abbrev W0 : WX := fun _ _ _ _ => False
variable {elt tg iter e o value : Expr} {ifs : List Expr} {scope : Scope} {pos pos' spos : Pos} {src : Rho → Sto → Res Src} {t : TG0} {cf ft : Rho → Sto → Res Bool} {el fe fo fv : DE0}
/-- the weakest reading of a pure function -/
def canon {α β : Type} [Rel α β] (C : Ctx) (W : WX) (f : Rho → Sto → Res α) : L2.St → Hp → (β → Hp → Prop) → Prop := fun σ H Q => ∃ g r O, RepO C g H O ∧ RepS C g σ r ∧ Post C W σ g H (f r O) Q
theorem canon_sat {α β : Type} [Rel α β] {f : Rho → Sto → Res α} : Sat C W (canon C W f) f := fun g σ H r O R S Q h => ⟨g, r, O, R, S, h⟩
theorem DE.canon {f : DE0} (h : DE C X W e f) : PE X e (canon C W f) := by
  obtain ⟨te, p, s⟩ := h.ex
  exact ⟨fun pins st σ H Q I ⟨g, r, O, R, S, q⟩ => p.run pins st σ H Q I (s g σ H r O R S Q q)⟩
theorem DTs.canon {f : Rho → Sto → Res Bool} (h : DTs C X W ifs f) : PTs X ifs (canon C W f) := by
  obtain ⟨te, p, s⟩ := h.ex
  exact ⟨fun pins st σ H Q I ⟨g, r, O, R, S, q⟩ => p.run pins st σ H Q I (s g σ H r O R S Q q)⟩
def canonG (C : Ctx) (own : List Nat) (f : TG0) : TG := fun v σ H Q => ∃ g r O d, RepO C g H O ∧ RepS C g σ r ∧ Shr C.K g d v ∧ PostG C own σ g H (f d r O) Q
theorem canonG_sat {own : List Nat} {f : TG0} : SatG C own (canonG C own f) f := fun g σ H r O R S d v s Q h => ⟨g, r, O, d, R, S, s, h⟩
theorem DG.canon {own : List Nat} {f : TG0} (h : DG C X tg own f) : PG X tg (canonG C own f) := by
  obtain ⟨t, p, s⟩ := h.ex
  exact ⟨fun pins st σ H v u Q I rv ⟨g, r, O, d, R, S, sv, q⟩ => p.run pins st σ H v u Q I rv (s g σ H r O R S d v sv Q q)⟩
/-- [elt for tg in iter if ..]; own: the block's names and slots -/
theorem d_lc (m : Bool) (own : List (Str × Nat)) {own' : List Nat} (hc : X.calm = true) (hN : X.N.Nodup) (hi : DI C X W tg iter src) (ok : blkC X.N X.env.scope scope own = true) (hown : own'.all (fun i => (own.map (·.2)).contains i) = true)
    (hg : ∀ (s : Shared) (H : Hp) (A : Addr) (cl : List (Str × Addr)) (fp : List Addr), DG C (X.blk s H scope (compEnvC scope cl A X.env) fp) tg own' t)
    (ht : ∀ (s : Shared) (H : Hp) (A : Addr) (cl : List (Str × Addr)) (fp : List Addr), DTs C (X.blk s H scope (compEnvC scope cl A X.env) fp) W0 ifs cf)
    (he : ∀ (s : Shared) (H : Hp) (A : Addr) (cl : List (Str × Addr)) (fp : List Addr), DE C (X.blk s H scope (compEnvC scope cl A X.env) fp) W0 elt el)
    (hs : ∀ x, foldedSetIterable iter X.env x = pure x := by intro _; rfl) : DE C X W (.ListComp elt [⟨tg, iter, ifs, 0⟩] scope pos) (lcE m src t cf el (own.map (·.2))) := by
  obtain ⟨wi, pi, si⟩ := hi.ex
  exact ⟨_, pe_lc hc hN pi (blkOk_by ok) (fun s H A cl fp => (hg s H A cl fp).canon) (fun s H A cl fp => (ht s H A cl fp).canon) (fun s H A cl fp => (he s H A cl fp).canon) hs,
    lc_sat si canonG_sat (fun i hi => by simpa using List.all_eq_true.mp hown i hi) canon_sat canon_sat⟩
/-- name = [..] on one line -/
theorem s_setLc (m : Bool) (own : List (Str × Nat)) (i : Nat) {y : Str} {py : Pos} {own' : List Nat} (hc : X.calm = true) (hN : X.N.Nodup) (hi : DI C X W tg iter src) (ok : blkC X.N X.env.scope scope own = true) (hown : own'.all (fun i => (own.map (·.2)).contains i) = true)
    (hg : ∀ (s : Shared) (H : Hp) (A : Addr) (cl : List (Str × Addr)) (fp : List Addr), DG C (X.blk s H scope (compEnvC scope cl A X.env) fp) tg own' t)
    (ht : ∀ (s : Shared) (H : Hp) (A : Addr) (cl : List (Str × Addr)) (fp : List Addr), DTs C (X.blk s H scope (compEnvC scope cl A X.env) fp) W0 ifs cf)
    (he : ∀ (s : Shared) (H : Hp) (A : Addr) (cl : List (Str × Addr)) (fp : List Addr), DE C (X.blk s H scope (compEnvC scope cl A X.env) fp) W0 elt el)
    (hsw : swapsWith (.ListComp elt [⟨tg, iter, ifs, 0⟩] scope pos) (some (.Name y py)) spos.line X.env = pure true)
    (hy : X.N[i]? = some y := by rfl) (hyl : X.env.scope.names.lookup y = some .local := by rfl) (hs : ∀ x, foldedSetIterable iter X.env x = pure x := by intro _; rfl) :
    DS C X W (.Assign [.Name y py] (.ListComp elt [⟨tg, iter, ifs, 0⟩] scope pos) spos) (setS i (lcE m src t cf el (own.map (·.2)))) := by
  obtain ⟨wi, pi, si⟩ := hi.ex
  exact ⟨_, ps_setLc hc hN hy hyl hsw pi (blkOk_by ok) (fun s H A cl fp => (hg s H A cl fp).canon) (fun s H A cl fp => (ht s H A cl fp).canon) (fun s H A cl fp => (he s H A cl fp).canon) hs,
    fun g σ H r O R S E h => Sat.seqS (lc_sat si canonG_sat (fun i hi => by simpa using List.all_eq_true.mp hown i hi) canon_sat canon_sat) R S h fun d O1 v g1 H1 e1 R1 S1 s1 h1 => h1 _ g1 H1 (Ext.refl R1) R1 (S1.set s1)⟩
/-! ### zip, enumerate -/
def zipD : List D → List D → List D
  | a :: as, b :: bs => .tup [a, b] :: zipD as bs
  | _, _ => []
theorem zipD_len : ∀ (as bs : List D), (zipD as bs).length = min as.length bs.length
  | [], _ => by simp [zipD]
  | _ :: _, [] => by simp [zipD]
  | a :: as, b :: bs => by simp [zipD, zipD_len as bs]
theorem zipD_get : ∀ {as bs : List D} {i : Nat} {d : D}, (zipD as bs)[i]? = some d → ∃ a b, as[i]? = some a ∧ bs[i]? = some b ∧ d = .tup [a, b]
  | [], _, _, _, h => by simp [zipD] at h
  | _ :: _, [], _, _, h => by simp [zipD] at h
  | a :: as, b :: bs, 0, d, h => by simp [zipD] at h; subst h; exact ⟨a, b, rfl, rfl, rfl⟩
  | a :: as, b :: bs, i + 1, d, h => by
    simp only [zipD, List.getElem?_cons_succ] at h
    obtain ⟨x, y, h1, h2, h3⟩ := zipD_get h
    exact ⟨x, y, by simpa using h1, by simpa using h2, h3⟩
def enumD (n : Nat) : List D → List D
  | [] => []
  | d :: ds => .tup [.int (n : Nat), d] :: enumD (n + 1) ds
theorem enumD_len : ∀ (n : Nat) (ds : List D), (enumD n ds).length = ds.length
  | _, [] => rfl
  | n, d :: ds => by simp [enumD, enumD_len]
theorem enumD_get : ∀ {n : Nat} {ds : List D} {i : Nat} {d : D}, (enumD n ds)[i]? = some d → ∃ a, ds[i]? = some a ∧ d = .tup [.int ((n + i : Nat) : Int), a]
  | _, [], _, _, h => by simp [enumD] at h
  | n, a :: ds, 0, d, h => by simp [enumD] at h; subst h; exact ⟨a, rfl, rfl⟩
  | n, a :: ds, i + 1, d, h => by
    simp only [enumD, List.getElem?_cons_succ] at h
    obtain ⟨x, h1, h2⟩ := enumD_get h
    exact ⟨x, by simpa using h1, by rw [h2, Nat.add_right_comm]; rfl⟩
/-- how a list that is read holds still -/
def stillD (d : D) (ds : List D) : List (Nat × List D) := match d with | .ob l => [(l, ds)] | _ => []
/-- a list stands as read, as long as it holds still -/
theorem still_list {g : G} {H : Hp} {O : Sto} {d : D} {v : V} {ds : List D} (R : RepO C g H O) (s : Shr C.K g d v) (h : listR d O = some ds) :
    ∃ a, v = .ref a ∧ ∀ g' H' O', GLe g g' → RepO C g' H' O' → stillOk (stillD d ds) O' = true → ∃ vs, SqL C.K H' a vs ∧ ShrL C.K g' ds vs := by
  unfold listR listS at h
  split at h
  · cases h
    simp only [Shr] at s
    obtain ⟨a, vs, rfl, h2, h3⟩ := s
    exact ⟨a, rfl, fun g' H' O' le R' _ => ⟨vs, ex_l R'.F (ex_l le.F h2), ShrL.mono le _ _ h3⟩⟩
  · split at h
    · cases h
      simp only [Shr] at s
      obtain ⟨a, vs, rfl, h2, h3⟩ := s
      exact ⟨a, rfl, fun g' H' O' le R' _ => ⟨vs, SqL.of (R'.F _ _ (le.F _ _ h2)), ShrL.mono le _ _ h3⟩⟩
    · rename_i l _
      simp only [Shr] at s
      obtain ⟨rfl, hl⟩ := s
      split at h
      · cases h
        refine ⟨_, rfl, fun g' H' O' le R' hs => ?_⟩
        obtain ⟨ws, h4, h5⟩ := R'.cell l _ (stillOk_at hs)
        rw [le.θ l hl] at h4
        exact ⟨ws, SqL.of h4, h5⟩
      · cases h
    · cases h
theorem stillOk_app {a b : List (Nat × List D)} {O : Sto} (h : stillOk (a ++ b) O = true) : stillOk a O = true ∧ stillOk b O = true := by
  induction a with
  | nil => exact ⟨rfl, h⟩
  | cons p a ih =>
    obtain ⟨l, ds⟩ := p
    simp only [List.cons_append, stillOk, Bool.and_eq_true] at h ⊢
    exact ⟨⟨h.1, (ih h.2).1⟩, (ih h.2).2⟩
def zipF (ds : List D) (O : Sto) : Res Src := match ds with
  | [.tup as, .tup bs] => .ok ⟨zipD as bs, []⟩ O
  | [a, b] => match listR a O, listR b O with | some as, some bs => .ok ⟨zipD as bs, stillD a as ++ stillD b bs⟩ O | _, _ => .bad
  | _ => .bad
theorem new_pair {g : G} {H : Hp} {O : Sto} {a b : D} {x y : V} (R : RepO C g H O) (sa : Shr C.K g a x) (sb : Shr C.K g b y) {T : Addr} (hT : H T = none) : ∃ g2, Ext g H g2 (upd H T (.tup [x, y])) ∧ RepO C g2 (upd H T (.tup [x, y])) O ∧ Shr C.K g2 (.tup [a, b]) (.ref T) := by
  refine ⟨g.frz T (.tup [x, y]), Ext.freeze R hT, R.frz hT, ?_⟩
  have le := GLe.frz (g := g) (o := .tup [x, y]) (R.Fnone hT)
  simp only [Shr, ShrL]
  exact ⟨T, [x, y], rfl, SqT.of upd_same, x, [y], rfl, sa.mono le, y, [], rfl, sb.mono le, rfl⟩
variable {p tpos : Pos} {elts es : List Expr} {kk : Nat} {fas : Rho → Sto → Res (List D)} {a b : Expr}
theorem i_zip (hK : X.K = C.K) (hg : Gl X "zip") (hm : X.mg "zip" = none) (ha : DA C X W [a, b] fas) (hs : starEach [a, b] X.env = (false, eval a X.env) :: starEach [b] X.env := by rfl) (hpl : (backTo pos (starEach [b] X.env)).any (·.1) = false := by rfl) :
    DI C X W (.Tuple elts kk tpos) (.Call (.Name "zip" p) [a, b] [] pos) (callI zipF fas) :=
  let ⟨_, pa, sa⟩ := ha.ex
  ⟨_, RZ.pi_zipA hg hm pa hs hpl, fun g σ H r O R S Q h => sa.seq R S h fun ds O1 vs g1 H1 e1 R1 S1 s1 h1 => by
    unfold zipF at h1
    rw [hK]
    split at h1
    · rename_i as bs
      obtain ⟨v, w, rfl, sv, sw⟩ := shrL_two s1
      simp only [Shr] at sv sw
      obtain ⟨x, xs, rfl, x2, x3⟩ := sv
      obtain ⟨y, ys, rfl, y2, y3⟩ := sw
      refine ⟨x, y, xs, ys, rfl, .inr ⟨ex_t R1.F x2, ex_t R1.F y2, Post.fin R1 ?_ h1⟩⟩
      intro g' H' O' i le R' hs
      have q1 := ex_t R'.F (ex_t le.F x2)
      have q2 := ex_t R'.F (ex_t le.F y2)
      refine ⟨fun d e => ?_, fun hl => ?_⟩
      · obtain ⟨da, db, ea, eb, rfl⟩ := zipD_get e
        obtain ⟨va, ha1, ha2⟩ := shrL_get x3 ea
        obtain ⟨vb, hb1, hb2⟩ := shrL_get y3 eb
        refine ⟨⟨xs, ys, va, vb, q1, q2, ha1, hb1⟩, fun z H2 k => ?_⟩
        obtain ⟨T, x', y', rfl, hT, rfl, k1, k2⟩ := k
        have k1 := k1 xs q1
        have k2 := k2 ys q2
        rw [ha1] at k1
        rw [hb1] at k2
        cases k1; cases k2
        exact new_pair R' (ha2.mono le) (hb2.mono le) hT
      · refine ⟨xs, ys, q1, q2, ?_⟩
        rw [zipD_len] at hl
        rw [shrL_len x3, shrL_len y3]
        omega
    · rename_i da db _
      obtain ⟨v, w, rfl, sv, sw⟩ := shrL_two s1
      split at h1
      · rename_i as bs ea eb
        obtain ⟨x, rfl, kx⟩ := still_list R1 sv ea
        obtain ⟨y, rfl, ky⟩ := still_list R1 sw eb
        obtain ⟨x', xs, ex, x2, x3⟩ := listR_of R1 sv ea
        obtain ⟨y', ys, ey, y2, y3⟩ := listR_of R1 sw eb
        cases ex; cases ey
        refine ⟨x, y, xs, ys, rfl, .inl ⟨x2, y2, Post.fin R1 ?_ h1⟩⟩
        intro g' H' O' i le R' hs
        obtain ⟨hs1, hs2⟩ := stillOk_app hs
        obtain ⟨xs', q1, x3'⟩ := kx g' H' O' le R' hs1
        obtain ⟨ys', q2, y3'⟩ := ky g' H' O' le R' hs2
        refine ⟨fun d e => ?_, fun hl => ?_⟩
        · obtain ⟨da, db, ea, eb, rfl⟩ := zipD_get e
          obtain ⟨va, ha1, ha2⟩ := shrL_get x3' ea
          obtain ⟨vb, hb1, hb2⟩ := shrL_get y3' eb
          refine ⟨⟨xs', ys', va, vb, q1, q2, ha1, hb1⟩, fun z H2 k => ?_⟩
          obtain ⟨T, x', y', rfl, hT, rfl, k1, k2⟩ := k
          have k1 := k1 xs' q1
          have k2 := k2 ys' q2
          rw [ha1] at k1
          rw [hb1] at k2
          cases k1; cases k2
          exact new_pair R' ha2 hb2 hT
        · refine ⟨xs', ys', q1, q2, ?_⟩
          rw [zipD_len] at hl
          rw [shrL_len x3', shrL_len y3']
          omega
      · exact h1.elim
    · exact h1.elim⟩
def enumF (ds : List D) (O : Sto) : Res Src := match ds with
  | [.tup as] => .ok ⟨enumD 0 as, []⟩ O
  | [a] => match listR a O with | some as => .ok ⟨enumD 0 as, stillD a as⟩ O | none => .bad
  | _ => .bad
theorem ite_of {g : G} {a : Addr} {ds : List D} {vs : List V} {st : List (Nat × List D)} (h1 : SqT C.K g.F a vs) (h2 : ShrL C.K g ds vs) : ItOk C g ⟨enumD 0 ds, st⟩ (IteT C.K a) := by
  intro g' H' O' i le R hs
  have q1 := ex_t R.F (ex_t le.F h1)
  refine ⟨fun d e => ?_, fun hl => ⟨vs, q1, by rw [shrL_len h2]; rw [enumD_len] at hl; exact hl⟩⟩
  obtain ⟨da, ea, rfl⟩ := enumD_get e
  obtain ⟨va, ha1, ha2⟩ := shrL_get h2 ea
  refine ⟨⟨vs, va, q1, ha1⟩, fun z H2 k => ?_⟩
  obtain ⟨T, x', rfl, hT, rfl, k1⟩ := k
  have k1 := k1 vs q1
  rw [ha1] at k1
  cases k1
  exact new_pair (a := .int ((0 + i : Nat) : Int)) R (show Shr C.K g' _ (V.int (i : Nat)) from by rw [Nat.zero_add]; rfl) (ha2.mono le) hT
theorem i_enum (hK : X.K = C.K) (hg : Gl X "enumerate") (hm : X.mg "enumerate" = none) (ha : DA C X W [e] fas) (hs : starEach [e] X.env = [(false, eval e X.env)] := by rfl) :
    DI C X W (.Tuple elts kk tpos) (.Call (.Name "enumerate" p) [e] [] pos) (callI enumF fas) :=
  let ⟨_, pa, sa⟩ := ha.ex
  ⟨_, PI.or (pi_enum hg hm pa hs) (pi_enumT hg hm pa hs), fun g σ H r O R S Q h => by
    unfold callI at h
    cases q : fas r O with
    | bad => rw [q] at h; exact h.elim
    | exc er O1 => exact .inl (sa g σ H r O R S _ (by rw [q] at h ⊢; exact h))
    | ok ds O1 =>
      rw [q] at h
      have h : Post C W σ g H (enumF ds O1) Q := h
      unfold enumF at h
      rw [hK]
      split at h
      · refine .inr ?_
        unfold iEnumT
        refine sa g σ H r O R S _ ?_
        rw [q]
        intro vs g1 H1 e1 R1 s1
        obtain ⟨v, rfl, sv⟩ := shrL_one s1
        simp only [Shr] at sv
        obtain ⟨a, ws, rfl, h2, h3⟩ := sv
        exact ⟨a, ws, rfl, ex_t R1.F h2, Post.fin R1 (ite_of h2 h3) (Post.shift e1 h)⟩
      · rename_i da hnt
        split at h
        · rename_i as ea
          refine .inl ?_
          unfold iEnum
          refine sa g σ H r O R S _ ?_
          rw [q]
          intro vs g1 H1 e1 R1 s1
          obtain ⟨v, rfl, sv⟩ := shrL_one s1
          obtain ⟨x, rfl, kx⟩ := still_list R1 sv ea
          obtain ⟨x', xs, ex, x2, x3⟩ := listR_of R1 sv ea
          cases ex
          refine ⟨x, xs, rfl, x2, Post.fin R1 ?_ (Post.shift e1 h)⟩
          intro g' H' O' i le R' hs
          obtain ⟨xs', q1, x3'⟩ := kx g' H' O' le R' hs
          refine ⟨fun d e => ?_, fun hl => ?_⟩
          · obtain ⟨da, ea, rfl⟩ := enumD_get e
            obtain ⟨va, ha1, ha2⟩ := shrL_get x3' ea
            refine ⟨⟨xs', va, q1, ha1⟩, fun z H2 k => ?_⟩
            obtain ⟨T, x', rfl, hT, rfl, k1⟩ := k
            have k1 := k1 xs' q1
            rw [ha1] at k1
            cases k1
            have := new_pair (a := .int ((0 + i : Nat) : Int)) R' (show Shr C.K g' _ (V.int (i : Nat)) from by rw [Nat.zero_add]; rfl) ha2 hT
            exact this
          · refine ⟨xs', q1, ?_⟩
            rw [enumD_len] at hl
            rw [shrL_len x3']
            exact hl
        · exact h.elim
      · exact h.elim⟩
/-! ### instances -/
/-- what the top says of the classes -/
structure Facts (C : Ctx) : Prop where
  cls : ∀ c A, C.cl c = some A → Cls C.K A
  noa : ∀ c A f, C.cl c = some A → C.att c f = true → NoAttr C.K A (C.fn f)
def putFD (f : Nat) (d : D) : List (Nat × D) → List (Nat × D)
  | [] => [(f, d)]
  | p :: r => if p.1 = f then (f, d) :: r else p :: putFD f d r
def getFD (f : Nat) : List (Nat × D) → Option D
  | [] => none
  | p :: r => if p.1 = f then some p.2 else getFD f r
theorem shrF_get {g : G} {f : Nat} (hf : f < C.fN) : ∀ {fs : List (Nat × D)} {vs : List (Str × V)} {d : D}, ShrF C g fs vs → getFD f fs = some d → ∃ v, vs.lookup (C.fn f) = some v ∧ Shr C.K g d v
  | [], vs, d, h, e => by simp [getFD] at e
  | p :: fs, vs, d, ⟨v, r, h1, h2, h3, h4⟩, e => by
    subst h1
    unfold getFD at e
    split at e
    · rename_i q
      cases e
      refine ⟨v, ?_, h3⟩
      rw [q]
      simp [List.lookup]
    · rename_i q
      obtain ⟨w, k1, k2⟩ := shrF_get hf h4 e
      refine ⟨w, ?_, k2⟩
      have : (C.fn f == C.fn p.1) = false := by
        rw [beq_eq_false_iff_ne]
        exact fun z => q (C.finj _ _ hf h2 z).symm
      simp only [List.lookup, this]
      exact k1
theorem shrF_put {g : G} {f : Nat} {d : D} {v : V} (hf : f < C.fN) (s : Shr C.K g d v) : ∀ {fs : List (Nat × D)} {vs : List (Str × V)}, ShrF C g fs vs → ShrF C g (putFD f d fs) (putF (C.fn f) v vs)
  | [], vs, h => by
    simp only [ShrF] at h; subst h
    exact ⟨v, [], rfl, hf, s, rfl⟩
  | p :: fs, vs, ⟨w, r, h1, h2, h3, h4⟩ => by
    subst h1
    unfold putFD putF
    by_cases q : p.1 = f
    · rw [if_pos q, if_pos (by rw [q])]
      exact ⟨v, r, by rw [q], hf, s, h4⟩
    · rw [if_neg q, if_neg fun z => q (C.finj _ _ h2 hf z)]
      exact ⟨w, _, rfl, h2, h3, shrF_put hf s h4⟩
theorem shrF_len {g : G} : ∀ {fs : List (Nat × D)} {vs : List (Str × V)}, ShrF C g fs vs → vs.length = fs.length
  | [], vs, h => by simp only [ShrF] at h; subst h; rfl
  | p :: fs, vs, ⟨w, r, h1, h2, h3, h4⟩ => by subst h1; simp [shrF_len h4]
theorem shrF_none {g : G} {m : Str} (hm : ∀ i, i < C.fN → C.fn i ≠ m) : ∀ {fs : List (Nat × D)} {vs : List (Str × V)}, ShrF C g fs vs → vs.lookup m = none
  | [], vs, h => by simp only [ShrF] at h; subst h; rfl
  | p :: fs, vs, ⟨w, r, h1, h2, h3, h4⟩ => by
    subst h1
    have : (m == C.fn p.1) = false := by
      rw [beq_eq_false_iff_ne]
      exact fun z => hm _ h2 z.symm
    simp only [List.lookup, this]
    exact shrF_none hm h4
def fldE (att : Nat → Nat → Bool) (f : Nat) (fo : DE0) : DE0 := fun r O => (fo r O).bind fun d O1 => match d with
  | .ob l => (match O1[l]? with
    | some (.ins c fs) => if att c f then (match getFD f fs with | some d => .ok d O1 | none => .bad) else .bad
    | _ => .bad)
  | _ => .bad
theorem d_fld (f : Nat) {x : Str} (hK : X.K = C.K) (Fa : Facts C) (hf : f < C.fN) (hx : C.fn f = x) (ho : DE C X W o fo) (hb : attributeBase o x X.env (eval o X.env) = eval o X.env := by rfl) : DE C X W (.Attribute o x pos) (fldE C.att f fo) :=
  let ⟨_, po, so⟩ := ho.ex
  ⟨_, pe_fld po hb, fun g σ H r O R S Q h => so.seq R S h fun d O1 v g1 H1 e1 R1 S1 s1 h1 => by
    split at h1
    · rename_i l
      simp only [Rel.sh, Shr] at s1
      obtain ⟨rfl, hl⟩ := s1
      split at h1
      · rename_i c fs ec
        split at h1
        · rename_i hatt
          split at h1
          · rename_i d' ed
            obtain ⟨A, dx, vs, h2, h3, h4⟩ := R1.cell l _ ec
            obtain ⟨w, h5, h6⟩ := shrF_get hf h4 ed
            rw [hK]
            exact ⟨_, A, dx, vs, w, rfl, h3, Fa.cls c A h2, hx ▸ Fa.noa c A f h2 hatt, hx ▸ h5, Post.fin R1 h6 h1⟩
          · exact h1.elim
        · exact h1.elim
      · exact h1.elim
    · exact h1.elim⟩
def fldS (att : Nat → Nat → Bool) (f : Nat) (fo fv : DE0) : DS0 := fun r O => (fv r O).bindS r fun d O1 => (fo r O1).bindS r fun o O2 => match o with
  | .ob l => (match O2[l]? with
    | some (.ins c fs) => if att c f && decide (fs.length < 1000) then .nx r (O2.set l (.ins c (putFD f d fs))) else .bad
    | _ => .bad)
  | _ => .bad
theorem s_fld (f : Nat) {x : Str} (hK : X.K = C.K) (Fa : Facts C) (hf : f < C.fN) (hx : C.fn f = x) (ho : DE C X W o fo) (hv : DE C X W value fv) (hs : swapsWith value (some (.Attribute o x pos')) pos.line X.env = pure false := by rfl) :
    DS C X W (.Assign [.Attribute o x pos'] value pos) (fldS C.att f fo fv) :=
  let ⟨_, po, so⟩ := ho.ex; let ⟨_, pv, sv⟩ := hv.ex
  ⟨_, ps_fld po pv hs, fun g σ H r O R S E h => sv.seqS R S h fun d O1 v g1 H1 e1 R1 S1 s1 h1 => so.seqS R1 S1 h1 fun o' O2 w g2 H2 e2 R2 S2 s2 h2 => by
    split at h2
    · rename_i l
      simp only [Rel.sh, Shr] at s2
      obtain ⟨rfl, hl⟩ := s2
      split at h2
      · rename_i c fs ec
        split at h2
        · rename_i hatt
          simp only [Bool.and_eq_true, decide_eq_true_eq] at hatt
          obtain ⟨A, dx, vs, h3, h4, h5⟩ := R2.cell l _ ec
          rw [hK]
          refine ⟨_, A, dx, vs, rfl, h4, Fa.cls c A h3, hx ▸ Fa.noa c A f h3 hatt.1, by rw [shrF_len h5]; exact hatt.2, ?_⟩
          refine h2 σ g2 _ (Ext.set R2 hl) (R2.set hl ⟨A, dx, _, h3, upd_same, ?_⟩) S2
          rw [← hx]
          exact shrF_put hf (s1.mono e2.le) h5
        · exact h2.elim
      · exact h2.elim
    · exact h2.elim⟩
/-! ### methods -/
structure GM (P : Program) (w : World) (K : PySem.W.Frag) (mg : Str → Option Value) (base : Heap) (C : Ctx) (c : Nat) (m : Str) (k np : Nat) (fn : Fn) : Prop where
  ex : ∃ A f fd ps, C.cl c = some A ∧ Meth K A m f ∧ ps.length = np ∧ FnOk P w K mg base (L2.CX P w) k f fd ps (spD C np fn) ∧ Binds K fd ps []
theorem GM.mono {P : Program} {w : World} {K : PySem.W.Frag} {mg : Str → Option Value} {base : Heap} {c : Nat} {m : Str} {j k np : Nat} {fn : Fn} (h : GM P w K mg base C c m j np fn) (hk : j ≤ k) : GM P w K mg base C c m k np fn := by
  obtain ⟨A, f, fd, ps, h1, h2, h3, h4, h5⟩ := h.ex
  exact ⟨A, f, fd, ps, h1, h2, h3, h4.mono hk, h5⟩
def methE (c np : Nat) (fn : Fn) (fo : DE0) (fas : Rho → Sto → Res (List D)) : DE0 := fun r O => (fo r O).bind fun d O1 => match d with
  | .ob l => (match O1[l]? with
    | some (.ins c' _) => if c' = c then (fas r O1).bind fun ds O2 => if ds.length + 1 = np then fn (.ob l :: ds) O2 else .bad else .bad
    | _ => .bad)
  | _ => .bad
def tMethS (A : Addr) (m : Str) (sp : Sp) (E : L2.St → XK) (ta : TE) (t : TA) : TE := fun σ H Q => ta σ H fun x H1 => ∃ a dx fs, x = .ref a ∧ H1 a = some (.ins A dx fs) ∧ fs.lookup m = none ∧ t σ H1 fun vs H2 => sp (x :: vs) H2 Q (E σ)
variable {m : Str} {apos : Pos} {k np c : Nat} {fn : Fn}
theorem pe_methS {CX : CXT} {f A : Addr} {fd : FuncData} {ps : List Str} {sp : Sp} {E : L2.St → XK} {ta : TE} {t : TA} {pl : Sem Bool} (he : PE X o ta) (c : Cls X.K A) (hm : Meth X.K A m f)
    (F : FnOk X.prog X.w X.K X.mg X.base CX k f fd ps sp) (hr : Room k X.A) (hb : Binds X.K fd ps []) (hx : ∀ σ, PassesAt CX X σ (E σ)) (ha : PA X (e :: es) t)
    (hst : starEach (e :: es) X.env = (false, eval e X.env) :: starEach es X.env) (hpl : (backTo pos (starEach es X.env)).any (·.1) = false)
    (ht : eval (.Call (.Attribute o m apos) (e :: es) [] pos) X.env = (do
      let ov ← eval o X.env
      standAt apos.atName
      let (f, first) ← holding [ov] (getMethod ov m pl)
      callWith pos f first (backTo pos (starEach (e :: es) X.env)) (backToKw pos (keywordEach [] X.env)))) :
    PE X (.Call (.Attribute o m apos) (e :: es) [] pos) (tMethS A m sp E ta t) := by
  refine ⟨fun pins s σ H Q I h => ?_⟩
  refine PySem.W.methodCall_KW (pl := pl) (thn (he.run pins s σ H _ I h) fun u s1 ⟨x, H1, I1, rx, a, dx, fs, ex, ea, l, q⟩ => ?_) ht
  subst ex
  obtain rfl : u = Value.ref a := rx
  refine getmeth_ok I1 ea c hm l ?_
  refine PySem.W.callWith_K (first := [.ref a]) (h₀ := X.base) I.ok.mod.kin hm.kp (thn (ha.run pos pins s1 σ H1 _ I1 q) fun us s2 ⟨vs, H2, I2, r, q2⟩ => ⟨I2.kIn, ?_⟩) hst hpl
  exact run_fnS (us := .ref a :: us) (vs := .ref a :: vs) F hr hb (hx σ) I2 (.cons rfl r) q2
theorem pe_methS0 {CX : CXT} {f A : Addr} {fd : FuncData} {ps : List Str} {sp : Sp} {E : L2.St → XK} {ta : TE} {pl : Sem Bool} (he : PE X o ta) (c : Cls X.K A) (hm : Meth X.K A m f)
    (F : FnOk X.prog X.w X.K X.mg X.base CX k f fd ps sp) (hr : Room k X.A) (hb : Binds X.K fd ps []) (hx : ∀ σ, PassesAt CX X σ (E σ))
    (ht : eval (.Call (.Attribute o m apos) [] [] pos) X.env = (do
      let ov ← eval o X.env
      standAt apos.atName
      let (f, first) ← holding [ov] (getMethod ov m pl)
      callWith pos f first (backTo pos (starEach [] X.env)) (backToKw pos (keywordEach [] X.env)))) :
    PE X (.Call (.Attribute o m apos) [] [] pos) (tMethS A m sp E ta tNil) := by
  refine ⟨fun pins s σ H Q I h => ?_⟩
  refine PySem.W.methodCall_KW (pl := pl) (thn (he.run pins s σ H _ I h) fun u s1 ⟨x, H1, I1, rx, a, dx, fs, ex, ea, l, q⟩ => ?_) ht
  subst ex
  obtain rfl : u = Value.ref a := rx
  refine getmeth_ok I1 ea c hm l ?_
  exact PySem.W.callWith_K0 (first := [.ref a]) I1.kIn hm.kp (run_fnS (us := [.ref a]) (vs := [.ref a]) F hr hb (hx σ) I1 (.cons rfl .nil) q)
theorem sat_meth {A : Addr} {ta : TE} {t : TA} (hA : C.cl c = some A) (hno : ∀ i, i < C.fN → C.fn i ≠ m) (so : Sat C W ta fo) (sa : Sat C W t fas) :
    Sat C W (tMethS A m (spD C np fn) (WE W) ta t) (methE c np fn fo fas) := fun g σ H r O R S Q h => so.seq R S h fun d O1 v g1 H1 e1 R1 S1 s1 h1 => by
  split at h1
  · rename_i l
    have s1' := s1
    simp only [Rel.sh, Shr] at s1
    obtain ⟨rfl, hl⟩ := s1
    split at h1
    · rename_i c' fs ec
      split at h1
      · rename_i hc
        subst hc
        obtain ⟨A', dx, vs, h3, h4, h5⟩ := R1.cell l _ ec
        rw [hA] at h3
        cases h3
        refine ⟨_, dx, vs, rfl, h4, shrF_none hno h5, ?_⟩
        exact sa.seq R1 S1 h1 fun ds O2 ws g2 H2 e2 R2 S2 s2 h2 => by
          split at h2
          · rename_i hn
            refine ⟨g2, O2, .ob l :: ds, by simpa using hn, R2, ?_, post_W h2⟩
            simp only [ShrL]
            exact ⟨_, ws, rfl, s1'.mono e2.le, s2⟩
          · exact h2.elim
      · exact h1.elim
    · exact h1.elim
  · exact h1.elim
theorem d_meth (c : Nat) {pl : Sem Bool} (hK : X.K = C.K) (Fa : Facts C) (G1 : GM X.prog X.w X.K X.mg X.base C c m k np fn) (hr : Room k X.A) (tk : Takes X W) (hno : ∀ i, i < C.fN → C.fn i ≠ m) (ho : DE C X W o fo) (ha : DA C X W (e :: es) fas)
    (hst : starEach (e :: es) X.env = (false, eval e X.env) :: starEach es X.env := by rfl) (hpl : (backTo pos (starEach es X.env)).any (·.1) = false := by rfl)
    (ht : eval (.Call (.Attribute o m apos) (e :: es) [] pos) X.env = (do
      let ov ← eval o X.env
      standAt apos.atName
      let (f, first) ← holding [ov] (getMethod ov m pl)
      callWith pos f first (backTo pos (starEach (e :: es) X.env)) (backToKw pos (keywordEach [] X.env))) := by rfl) :
    DE C X W (.Call (.Attribute o m apos) (e :: es) [] pos) (methE c np fn fo fas) := by
  obtain ⟨A, f, fd, ps, h1, h2, h3, h4, h5⟩ := G1.ex
  obtain ⟨_, po, so⟩ := ho.ex
  obtain ⟨_, pa, sa⟩ := ha.ex
  exact ⟨_, pe_methS po (by rw [hK]; exact Fa.cls c A h1) h2 h4 hr h5 (fun σ => passAt tk σ) pa hst hpl ht, sat_meth h1 hno so sa⟩
theorem d_meth0 (c : Nat) {pl : Sem Bool} (hK : X.K = C.K) (Fa : Facts C) (G1 : GM X.prog X.w X.K X.mg X.base C c m k np fn) (hr : Room k X.A) (tk : Takes X W) (hno : ∀ i, i < C.fN → C.fn i ≠ m) (ho : DE C X W o fo)
    (ht : eval (.Call (.Attribute o m apos) [] [] pos) X.env = (do
      let ov ← eval o X.env
      standAt apos.atName
      let (f, first) ← holding [ov] (getMethod ov m pl)
      callWith pos f first (backTo pos (starEach [] X.env)) (backToKw pos (keywordEach [] X.env))) := by rfl) :
    DE C X W (.Call (.Attribute o m apos) [] [] pos) (methE c np fn fo nilA) := by
  obtain ⟨A, f, fd, ps, h1, h2, h3, h4, h5⟩ := G1.ex
  obtain ⟨_, po, so⟩ := ho.ex
  exact ⟨_, pe_methS0 po (by rw [hK]; exact Fa.cls c A h1) h2 h4 hr h5 (fun σ => passAt tk σ) ht, sat_meth h1 hno so sat_nil⟩
end
end Dn
set_option Elab.async false
set_option linter.all false
set_option maxRecDepth 100000
set_option maxHeartbeats 2000000
namespace Dn
open PySem PySem.Spec PyProof.Rows L2
section
variable {C : Ctx} {X : Cx} {W : WX}
variable {x : Str} {p pos pos' : Pos} {e a b : Expr} {es : List Expr} {fas : Rho → Sto → Res (List D)} {fe fo fa fb : DE0} {k np c : Nat} {fn : Fn}
/-! ### C(..) -/
def tMakeS (A : Addr) (sp : Sp) (E : L2.St → XK) (t : TA) : TE := fun σ H Q => t σ H fun vs H1 => ∀ x dx, H1 x = none → H1 dx = none → dx ≠ x →
  sp (.ref x :: vs) (upd (upd H1 dx (.own x)) x (.ins A dx [])) (fun v H2 => v = .non ∧ Q (.ref x) H2) (E σ)
theorem make_run {CX : CXT} {f A : Addr} {fd : FuncData} {ps : List Str} {sp : Sp} {E : XK} {pins : List (Addr × Obj)} {σ : L2.St} {H : Hp} {s : Shared} {Q : VK} {us : List Value} {vs : List V} (M : Mk X.K A f)
    (F : FnOk X.prog X.w X.K X.mg X.base CX k f fd ps sp) (hr : Room (k + 1) X.A) (hb : Binds X.K fd ps []) (hx : PassesAt CX X σ E) (I : Inv X pins σ H s) (r : Vals vs us)
    (h : ∀ x dx, H x = none → H dx = none → dx ≠ x → sp (.ref x :: vs) (upd (upd H dx (.own x)) x (.ins A dx [])) (fun v H2 => v = .non ∧ Q (.ref x) H2) E) :
    wpAny (model X.prog X.w) X.A (call (.ref A) us) (EP X pins σ Q) X.xe s := by
  generalize hn : s.heap.objs.size = n at *
  have hq := h (n + 1) n (I.hok.fresh (by rw [hn]; exact Nat.le_succ _)) (I.hok.fresh (by rw [hn]; exact Nat.le_refl _)) (Nat.ne_of_lt (Nat.lt_succ_self n))
  have J := Inv.made (C := A) I
  rw [hn] at J
  have rr : Vals (V.ref (n + 1) :: vs) (Value.ref (n + 1) :: us) := .cons rfl r
  have hlen : (Value.ref (n + 1) :: us).length = ps.length := rr.length.symm.trans (F.len _ _ _ _ hq)
  have bb := hb _ (Value.ref (n + 1) :: us) J.kIn (by rw [List.append_nil]; exact hlen)
  rw [List.append_nil] at bb
  have go := F.run _ X.stack _ _ ⟨Value.ref (n + 1) :: us, []⟩ _ _ _ E (hr.make A us []) (J.env0.make A us []) bb rr hq
  subst hn
  refine wpAny_call (make_map I.kIn M.makes M.init (beq_iff_eq.mp M.fn) (codeAny_mono go fun res s' out => ?_))
  match res, out with
  | .error er, out => exact hx pins _ _ er s' J out
  | .ok (.ret u), out =>
    obtain ⟨v, H', I3, rv, ev, q3⟩ := J.after out
    subst ev
    exact ⟨rv, V.ref (s.heap.objs.size + 1), H', I3, rfl, q3⟩
theorem pe_makeS {CX : CXT} {f A : Addr} {fd : FuncData} {ps : List Str} {sp : Sp} {E : L2.St → XK} {t : TA} (M : Mk X.K A f) (F : FnOk X.prog X.w X.K X.mg X.base CX k f fd ps sp) (hr : Room (k + 1) X.A) (hg : Gl X x) (hm : X.mg x = some (.ref A)) (hb : Binds X.K fd ps []) (hx : ∀ σ, PassesAt CX X σ (E σ))
    (ha : PA X (e :: es) t) (hdb : (x == ("__debug__" : Str)) = false) (he : starEach (e :: es) X.env = (false, eval e X.env) :: starEach es X.env) (hpl : (backTo pos (starEach es X.env)).any (·.1) = false) :
    PE X (.Call (.Name x p) (e :: es) [] pos) (tMakeS A sp E t) :=
  ⟨fun pins s σ H Q I h => wpAny_Call_Name_kw (ld_glob I hg hm (PySem.W.callWith_K (h₀ := X.base) I.ok.mod.kin M.kp (thn (ha.run pos pins s σ H _ I h) fun us s1 ⟨vs, H1, I1, r, q⟩ => ⟨I1.kIn, make_run M F hr hb (hx σ) I1 r q⟩) he hpl) hdb)⟩
theorem pe_makeS0 {CX : CXT} {f A : Addr} {fd : FuncData} {ps : List Str} {sp : Sp} {E : L2.St → XK} (M : Mk X.K A f) (F : FnOk X.prog X.w X.K X.mg X.base CX k f fd ps sp) (hr : Room (k + 1) X.A) (hg : Gl X x) (hm : X.mg x = some (.ref A)) (hb : Binds X.K fd ps []) (hx : ∀ σ, PassesAt CX X σ (E σ))
    (hdb : (x == ("__debug__" : Str)) = false) : PE X (.Call (.Name x p) [] [] pos) (tMakeS A sp E tNil) :=
  ⟨fun pins s σ H Q I h => wpAny_Call_Name_kw (ld_glob I hg hm (PySem.W.callWith_K0 I.kIn M.kp (make_run (us := []) M F hr hb (hx σ) I .nil h)) hdb)⟩
/-- a class of the text with its __init__ -/
structure GK (P : Program) (w : World) (K : PySem.W.Frag) (mg : Str → Option Value) (base : Heap) (C : Ctx) (x : Str) (c k np : Nat) (fn : Fn) : Prop where
  ex : ∃ A f fd ps, C.cl c = some A ∧ mg x = some (.ref A) ∧ Mk K A f ∧ ps.length = np ∧ FnOk P w K mg base (L2.CX P w) k f fd ps (spD C np fn) ∧ Binds K fd ps []
theorem GK.mono {P : Program} {w : World} {K : PySem.W.Frag} {mg : Str → Option Value} {base : Heap} {c j k np : Nat} (h : GK P w K mg base C x c j np fn) (hk : j ≤ k) : GK P w K mg base C x c k np fn := by
  obtain ⟨A, f, fd, ps, h1, h2, h3, h4, h5, h6⟩ := h.ex
  exact ⟨A, f, fd, ps, h1, h2, h3, h4, h5.mono hk, h6⟩
def asNon (l : Nat) (d : D) (O : Sto) : ER := match d with | .non => .ok (.ob l) O | _ => .bad
def makeE (c np : Nat) (fn : Fn) (fas : Rho → Sto → Res (List D)) : DE0 := fun r O => (fas r O).bind fun ds O1 => if ds.length + 1 = np then (fn (.ob O1.length :: ds) (O1 ++ [.ins c []])).bind (asNon O1.length) else .bad
theorem sat_make {A : Addr} {t : TA} (hA : C.cl c = some A) (sa : Sat C W t fas) : Sat C W (tMakeS A (spD C np fn) (WE W) t) (makeE c np fn fas) := fun g σ H r O R S Q h => sa.seq R S h fun ds O1 vs g1 H1 e1 R1 S1 s1 h1 => by
  intro x dx nx nd ne
  split at h1
  · rename_i hn
    have k1 : ∀ a o, H1 a = some o → upd (upd H1 dx (.own x)) x (.ins A dx []) a = some o := fun a o q => by
      rw [upd_ne (ne_of_none q nx), upd_ne (ne_of_none q nd)]; exact q
    have R2 := R1.add (c := .ins c []) nx k1 ⟨A, dx, [], hA, upd_same, rfl⟩
    have e2 := Ext.add (H' := upd (upd H1 dx (.own x)) x (.ins A dx [])) R1 nx k1
    have hl : (g1.add x).θ O1.length = x := by rw [← R1.n]; exact G.add_at
    have hl2 : O1.length < (g1.add x).n := by show O1.length < g1.n + 1; have := R1.n; omega
    refine ⟨g1.add x, _, .ob O1.length :: ds, by simpa using hn, R2, ?_, ?_⟩
    · simp only [ShrL, Shr]
      exact ⟨_, vs, by rw [hl], ⟨rfl, hl2⟩, ShrL.mono GLe.add _ _ s1⟩
    · have h2 := post_W (Post.shift e2 h1)
      cases z : fn (.ob O1.length :: ds) (O1 ++ [.ins c []]) with
      | bad => rw [z] at h2; exact h2.elim
      | exc er O3 => rw [z] at h2; exact h2
      | ok d O3 =>
        rw [z] at h2
        intro v g3 H3 e3 R3 s3
        cases d with
        | non =>
          refine ⟨s3, ?_⟩
          refine h2 (.ref x) g3 H3 e3 R3 ?_
          show Shr _ _ (.ob _) _
          simp only [Shr]
          rw [e3.le.θ _ hl2, hl]
          exact ⟨rfl, Nat.lt_of_lt_of_le hl2 e3.le.n⟩
        | _ => exact h2.elim
  · exact h1.elim
theorem d_make (G1 : GK X.prog X.w X.K X.mg X.base C x c k np fn) (hr : Room (k + 1) X.A) (tk : Takes X W) (hg : Gl X x) (ha : DA C X W (e :: es) fas)
    (hdb : (x == ("__debug__" : Str)) = false := by decide) (he : starEach (e :: es) X.env = (false, eval e X.env) :: starEach es X.env := by rfl) (hpl : (backTo pos (starEach es X.env)).any (·.1) = false := by rfl) :
    DE C X W (.Call (.Name x p) (e :: es) [] pos) (makeE c np fn fas) := by
  obtain ⟨A, f, fd, ps, h1, h2, h3, h4, h5, h6⟩ := G1.ex
  obtain ⟨_, pa, sa⟩ := ha.ex
  exact ⟨_, pe_makeS h3 h5 hr hg h2 h6 (fun σ => passAt tk σ) pa hdb he hpl, sat_make h1 sa⟩
theorem d_make0 (G1 : GK X.prog X.w X.K X.mg X.base C x c k np fn) (hr : Room (k + 1) X.A) (tk : Takes X W) (hg : Gl X x) (hdb : (x == ("__debug__" : Str)) = false := by decide) :
    DE C X W (.Call (.Name x p) [] [] pos) (makeE c np fn nilA) := by
  obtain ⟨A, f, fd, ps, h1, h2, h3, h4, h5, h6⟩ := G1.ex
  exact ⟨_, pe_makeS0 h3 h5 hr hg h2 h6 (fun σ => passAt tk σ) hdb, sat_make h1 sat_nil⟩
/-! ### isinstance of built-in types -/
/-- a value's type: 0 None, 1 bool, 2 int, 3 str, 4 tuple, 5 list, 6 dict -/
def tyD (d : D) (O : Sto) : Option Nat := match d with
  | .non => some 0 | .bl _ => some 1 | .int _ => some 2 | .str _ => some 3 | .tup _ => some 4 | .lst _ => some 5 | .scr _ => some 5
  | .ob l => match O[l]? with | some (.lst _) => some 5 | some (.dic _) => some 6 | _ => none
def tyName : Nat → String
  | 0 => "NoneType" | 1 => "bool" | 2 => "int" | 3 => "str" | 4 => "tuple" | 5 => "list" | _ => "dict"
def isTy (t T : Nat) : Bool := t == T || (t == 1 && T == 2)
def isiD (T : Nat) : O1 := fun d O => match tyD d O with | some t => .ok (.bl (isTy t T)) O | none => .bad
theorem rd_tup {K : PySem.W.Frag} {H : Hp} {a : Addr} {vs : List V} (h : SqT K H a vs) : TyX K H (.ref a) (.type "tuple") := by
  rcases h with (h | ⟨o, h⟩) | ⟨o, its, n, h1, h2, _⟩
  · exact .base (.tup h)
  · exact .fTuple h
  · exact .kTuple h1 h2
theorem rd_lst {K : PySem.W.Frag} {H : Hp} {a : Addr} {vs : List V} (h : SqL K H a vs) : TyX K H (.ref a) (.type "list") := by
  rcases h with (h | ⟨o, h⟩) | ⟨o, its, n, h1, h2, _⟩
  · exact .base (.lst h)
  · exact .base (.frz h)
  · exact .kList h1 h2
theorem tyX_of {g : G} {H : Hp} {O : Sto} (R : RepO C g H O) {d : D} {v : V} (s : Shr C.K g d v) {t : Nat} (h : tyD d O = some t) : TyX C.K H v (.type (tyName t)) := by
  cases d with
  | non => cases h; cases s; exact .base .non
  | bl b => cases h; cases s; exact .base (.bl b)
  | int i => cases h; cases s; exact .base (.int i)
  | str x => cases h; cases s; exact .base (.str _)
  | tup ds =>
    cases h
    simp only [Shr] at s
    obtain ⟨a, vs, rfl, h2, _⟩ := s
    exact rd_tup (ex_t R.F h2)
  | lst ds =>
    cases h
    simp only [Shr] at s
    obtain ⟨a, vs, rfl, h2, _⟩ := s
    exact .base (.lst (R.F _ _ h2))
  | scr ds =>
    cases h
    simp only [Shr] at s
    obtain ⟨a, vs, rfl, h2, _⟩ := s
    exact rd_lst (ex_l R.F h2)
  | ob l =>
    simp only [Shr] at s
    obtain ⟨rfl, _⟩ := s
    unfold tyD at h
    simp only at h
    split at h
    · rename_i e
      cases h
      obtain ⟨vs, h1, _⟩ := R.cell l _ e
      exact .base (.lst h1)
    · rename_i e
      cases h
      obtain ⟨vs, h1, _⟩ := R.cell l _ e
      exact .base (.dK h1)
    · cases h
def kits : Bool := (List.range 7).all fun t => (List.range 7).all fun T => kitB (tyName t) (tyName T) == some (isTy t T)
theorem kits_ok : kits = true := by decide +kernel
theorem kit_at {t T : Nat} (h1 : t < 7) (h2 : T < 7) : kitB (tyName t) (tyName T) = some (isTy t T) := by
  have h := List.all_eq_true.mp (List.all_eq_true.mp kits_ok t (List.mem_range.mpr h1)) T (List.mem_range.mpr h2)
  exact eq_of_beq h
theorem tyD_lt {d : D} {O : Sto} {t : Nat} (h : tyD d O = some t) : t < 7 := by
  unfold tyD at h
  split at h <;> (try split at h) <;> cases h <;> decide
theorem d_isi (T : Nat) {n : Str} {pT : Pos} (hK : X.K = C.K) (hT : T < 7) (hg : Gl X "isinstance") (hm : X.mg "isinstance" = none) (he : DE C X W e fe) (hgT : Gl X n) (hmT : X.mg n = none) (hv : bootBuiltins n = some (.type (tyName T))) (hnn : n ≠ "__name__" := by decide) (hnd : (n == ("__debug__" : Str)) = false := by decide)
    (hs1 : starEach [.Name n pT] X.env = (false, eval (.Name n pT) X.env) :: starEach [] X.env := by rfl)
    (hs : starEach [e, .Name n pT] X.env = (false, eval e X.env) :: starEach [.Name n pT] X.env := by rfl) (hpl : (backTo pos (starEach [.Name n pT] X.env)).any (·.1) = false := by rfl) :
    DE C X W (.Call (.Name "isinstance" p) [e, .Name n pT] [] pos) (op1 (isiD T) fe) := by
  obtain ⟨te, pe, se⟩ := he.ex
  refine ⟨_, pe_callB call_isi hg hm (by decide +kernel) (pa_cons pe (pa_cons (pe_bltn (v := .ty (tyName T)) hgT hmT hv rfl hnn hnd) pa_nil hs1) hs) (by decide) (by decide) hs hpl, fun g σ H r O R S Q h => ?_⟩
  refine se.seq R S h fun d O1 v g1 H1 e1 R1 S1 s1 h1 => ?_
  unfold isiD at h1
  split at h1
  · rename_i t et
    refine ⟨v, .ty (tyName T), _, _, _, rfl, .ty _, hK ▸ tyX_of R1 s1 et, kit_ty (kit_at (tyD_lt et) hT), Post.fin R1 rfl h1⟩
  · exact h1.elim
/-! ### tuple(x), list(x), all(x), str(x) -/
def tupleF : List D → Sto → ER := fun ds O => match ds with
  | [.tup xs] => .ok (.tup xs) O
  | [d] => (match listR d O with | some xs => .ok (.tup xs) O | none => .bad)
  | _ => .bad
theorem s_tuple : SatC C W (fun xs H Q => ∃ p ys, xs = [.ref p] ∧ ((SqL C.K H p ys ∧ ∀ l, H l = none → Q (.ref l) (upd H l (.tup ys))) ∨ (SqT C.K H p ys ∧ Q (.ref p) H))) tupleF := by
  intro g H O R ds vs s σ Q h
  unfold tupleF at h
  split at h
  · rename_i xs
    obtain ⟨v, rfl, sv⟩ := shrL_one s
    have sv' := sv
    simp only [Shr] at sv
    obtain ⟨a, ws, rfl, h2, h3⟩ := sv
    exact ⟨a, ws, rfl, .inr ⟨ex_t R.F h2, Post.fin R sv' h⟩⟩
  · rename_i d _
    obtain ⟨v, rfl, sv⟩ := shrL_one s
    split at h
    · rename_i xs ex
      obtain ⟨a, ws, rfl, h2, h3⟩ := listR_of R sv ex
      exact ⟨a, ws, rfl, .inl ⟨h2, fun l hl => new_tup R h3 h hl⟩⟩
    · exact h.elim
  · exact h.elim
def listF (m : Bool) : List D → Sto → ER := fun ds O => match ds with
  | [d] => (match seqR d O with | some xs => mkL m xs O | none => .bad)
  | _ => .bad
theorem s_list (m : Bool) : SatC C W (fun xs H Q => ∃ p ys, xs = [.ref p] ∧ (SqL C.K H p ys ∨ SqT C.K H p ys) ∧ ∀ l, H l = none → Q (.ref l) (upd H l (.lst ys))) (listF m) := by
  intro g H O R ds vs s σ Q h
  unfold listF at h
  split at h
  · rename_i d
    obtain ⟨v, rfl, sv⟩ := shrL_one s
    split at h
    · rename_i xs ex
      obtain ⟨a, ws, rfl, h2, h3⟩ := seqR_of R sv ex
      exact ⟨a, ws, rfl, h2, fun l hl => new_lst R h3 h hl⟩
    · exact h.elim
  · exact h.elim
def blD (d : D) : Option Bool := match d with | .bl b => some b | _ => none
def bls : List D → Option (List Bool)
  | [] => some []
  | d :: ds => match blD d, bls ds with | some b, some bs => some (b :: bs) | _, _ => none
theorem bls_of {K : PySem.W.Frag} {g : G} : ∀ {ds : List D} {vs : List V} {bs : List Bool}, ShrL K g ds vs → bls ds = some bs → vs = bs.map V.bl
  | [], vs, bs, h, e => by simp only [ShrL] at h; subst h; simp [bls] at e; subst e; rfl
  | d :: ds, vs, bs, h, e => by
    simp only [ShrL] at h
    obtain ⟨v, r, rfl, h2, h3⟩ := h
    unfold bls at e
    split at e
    · rename_i b bs' e1 e2
      cases e
      unfold blD at e1
      split at e1
      · cases e1
        cases h2
        rw [bls_of h3 e2]; rfl
      · cases e1
    · cases e
def allF : List D → Sto → ER := fun ds O => match ds with
  | [d] => (match listR d O with | some xs => (match bls xs with | some bs => .ok (.bl (bs.all id)) O | none => .bad) | none => .bad)
  | _ => .bad
def anyF : List D → Sto → ER := fun ds O => match ds with
  | [d] => (match listR d O with | some xs => (match bls xs with | some bs => .ok (.bl (bs.any id)) O | none => .bad) | none => .bad)
  | _ => .bad
theorem s_all : SatC C W (rAll C.K) allF := by
  intro g H O R ds vs s σ Q h
  unfold allF at h
  split at h
  · rename_i d
    obtain ⟨v, rfl, sv⟩ := shrL_one s
    split at h
    · rename_i xs ex
      split at h
      · rename_i bs eb
        obtain ⟨a, ws, rfl, h2, h3⟩ := listR_of R sv ex
        have := bls_of h3 eb
        subst this
        exact ⟨a, bs, rfl, h2, Post.fin R rfl h⟩
      · exact h.elim
    · exact h.elim
  · exact h.elim
theorem s_any : SatC C W (rAny C.K) anyF := by
  intro g H O R ds vs s σ Q h
  unfold anyF at h
  split at h
  · rename_i d
    obtain ⟨v, rfl, sv⟩ := shrL_one s
    split at h
    · rename_i xs ex
      split at h
      · rename_i bs eb
        obtain ⟨a, ws, rfl, h2, h3⟩ := listR_of R sv ex
        have := bls_of h3 eb
        subst this
        exact ⟨a, bs, rfl, h2, Post.fin R rfl h⟩
      · exact h.elim
    · exact h.elim
  · exact h.elim
end
end Dn
set_option Elab.async false
set_option linter.all false
set_option maxRecDepth 100000
set_option maxHeartbeats 2000000
namespace Dn
open PySem PySem.Spec PyProof.Rows L2
section
variable {C : Ctx} {X : Cx} {W : WX}
variable {x : Str} {p pos pos' apos : Pos} {e o a b c : Expr} {es : List Expr} {fas : Rho → Sto → Res (List D)} {fe fo fa fb fc : DE0}
/-! ### each construct under one name -/
theorem e_add (m : Bool) (hK : X.K = C.K) (ha : DE C X W a fa) (hb : DE C X W b fb) : DE C X W (.BinOp a .Add b pos) (op2 (addD m) fa fb) := d_op (op_addD (X := X)) (by rw [hK]; exact s_add m) ha hb
theorem e_sub (ha : DE C X W a fa) (hb : DE C X W b fb) : DE C X W (.BinOp a .Sub b pos) (op2 subD fa fb) := d_op op_sub s_sub ha hb
theorem e_mod (ha : DE C X W a fa) (hb : DE C X W b fb) : DE C X W (.BinOp a .Mod b pos) (op2 modD fa fb) := d_op op_mod s_mod ha hb
theorem e_fdiv (ha : DE C X W a fa) (hb : DE C X W b fb) : DE C X W (.BinOp a .FloorDiv b pos) (op2 fdivD fa fb) := d_op op_fdiv s_fdiv ha hb
theorem e_neg (ha : DE C X W a fa) : DE C X W (.UnaryOp .USub a pos) (op1 negD fa) := d_un un_neg s_neg ha
/-- * -/
def mulOk (i j : Int) : Bool := (decide (-18446744073709551616 < i) && decide (i < 18446744073709551616)) || (decide (-18446744073709551616 < j) && decide (j < 18446744073709551616))
def mulD (m : Bool) : O2 := fun a b O => match a, b with
  | .int i, .int j => if mulOk i j then .ok (.int (i * j)) O else .bad
  | .tup xs, .int k => if decide (xs ≠ []) && decide (2 ≤ k) && decide (k ≤ 1000) && decide (xs.length ≤ 1000) then .ok (.tup (List.replicate k.toNat xs).flatten) O else .bad
  | a, .int k => (match listS a O with
    | some xs => if decide (-9223372036854775808 ≤ k) && decide (k < 9223372036854775808) && decide (xs.length * k.toNat ≤ sizeLine) then mkL m (List.replicate k.toNat xs).flatten O else .bad
    | none => .bad)
  | _, _ => .bad
theorem shrL_rep {K : PySem.W.Frag} {g : G} {ds : List D} {vs : List V} (h : ShrL K g ds vs) : ∀ k : Nat, ShrL K g (List.replicate k ds).flatten (List.replicate k vs).flatten
  | 0 => by simp [ShrL]
  | k + 1 => by
    rw [List.replicate_succ, List.replicate_succ, List.flatten_cons, List.flatten_cons]
    exact shrL_append h (shrL_rep h k)
def rMulA (K : PySem.W.Frag) : R2 := fun x y H Q => rI CMul (fun i j => .int (i * j)) x y H Q ∨ rRepT K x y H Q ∨ rRep x y H Q
theorem op_mulA : OpR X (binaryOp .Mult) (rMulA X.K) := op_mul.or (op_repT.or op_rep)
theorem s_mul (m : Bool) : Sat2 C W (rMulA C.K) (mulD m) := by
  intro g H O R a b x y sx sy σ Q h
  unfold mulD at h
  split at h
  · cases sx; cases sy
    split at h
    · rename_i hm
      refine .inl ⟨_, _, rfl, rfl, ?_, Post.fin R rfl h⟩
      simp only [mulOk, Bool.or_eq_true, Bool.and_eq_true, decide_eq_true_eq] at hm
      rcases hm with hm | hm
      · exact .inl ⟨by omega, by omega⟩
      · exact .inr ⟨by omega, by omega⟩
    · exact h.elim
  · rename_i xs k
    cases sy
    simp only [Shr] at sx
    obtain ⟨a, vs, rfl, a2, a3⟩ := sx
    split at h
    · rename_i hc
      simp only [Bool.and_eq_true, decide_eq_true_eq] at hc
      have hl := shrL_len a3
      refine .inr (.inl ⟨a, k, vs, rfl, rfl, ex_t R.F a2, fun z => hc.1.1.1 ?_, hc.1.1.2, hc.1.2, by omega, fun p hp => new_tup R (shrL_rep a3 _) h hp⟩)
      subst z
      exact List.eq_nil_of_length_eq_zero (by simpa using hl.symm)
    · exact h.elim
  · rename_i d k _ _
    cases sy
    split at h
    · rename_i xs ex
      obtain ⟨a, vs, rfl, a2, a3⟩ := listS_of R sx ex
      split at h
      · rename_i hc
        simp only [Bool.and_eq_true, decide_eq_true_eq] at hc
        have hl := shrL_len a3
        exact .inr (.inr ⟨a, k, vs, rfl, rfl, a2, by omega, by omega, by rw [hl]; exact hc.2, fun p hp => new_lst R (shrL_rep a3 _) h hp⟩)
      · exact h.elim
    · exact h.elim
  · exact h.elim
theorem e_mul (m : Bool) (hK : X.K = C.K) (ha : DE C X W a fa) (hb : DE C X W b fb) : DE C X W (.BinOp a .Mult b pos) (op2 (mulD m) fa fb) := d_op (op_mulA (X := X)) (by rw [hK]; exact s_mul m) ha hb
/-! comparisons as values, as tests -/
theorem e_eq (hK : X.K = C.K) (hu : X.A.units + 64 < cLine) (ha : DE C X W a fa) (hb : DE C X W b fb) : DE C X W (.Compare a [.Eq] [b] pos) (op2 eqD fa fb) := d_cmp (op_eqA hu) (by rw [hK]; exact s_eq) ha hb
theorem e_ne (hK : X.K = C.K) (hu : X.A.units + 64 < cLine) (ha : DE C X W a fa) (hb : DE C X W b fb) : DE C X W (.Compare a [.NotEq] [b] pos) (op2 neD fa fb) := d_cmp (op_neA hu) (by rw [hK]; exact s_ne) ha hb
theorem e_lt (ha : DE C X W a fa) (hb : DE C X W b fb) : DE C X W (.Compare a [.Lt] [b] pos) (op2 ltD fa fb) := d_cmp op_lt s_lt ha hb
theorem e_le (ha : DE C X W a fa) (hb : DE C X W b fb) : DE C X W (.Compare a [.LtE] [b] pos) (op2 leD fa fb) := d_cmp op_le s_le ha hb
theorem e_gt (ha : DE C X W a fa) (hb : DE C X W b fb) : DE C X W (.Compare a [.Gt] [b] pos) (op2 gtD fa fb) := d_cmp op_gt s_gt ha hb
theorem e_ge (ha : DE C X W a fa) (hb : DE C X W b fb) : DE C X W (.Compare a [.GtE] [b] pos) (op2 geD fa fb) := d_cmp op_ge s_ge ha hb
theorem e_isN (ha : DE C X W a fa) (hb : DE C X W b fb) : DE C X W (.Compare a [.Is] [b] pos) (op2 isNoneD fa fb) := d_cmp op_isN s_isN ha hb
theorem e_notN (ha : DE C X W a fa) (hb : DE C X W b fb) : DE C X W (.Compare a [.IsNot] [b] pos) (op2 notNoneD fa fb) := d_cmp op_notN s_notN ha hb
theorem e_in (hK : X.K = C.K) (hu : X.A.units + 64 < cLine) (ha : DE C X W a fa) (hb : DE C X W b fb) (hm : behindInMarks .In b = false := by rfl) : DE C X W (.Compare a [.In] [b] pos) (op2 (inB false) fa fb) := d_cmp (op_inA (by omega)) (by rw [hK]; exact s_in false) ha hb hm
theorem e_notin (hK : X.K = C.K) (hu : X.A.units + 64 < cLine) (ha : DE C X W a fa) (hb : DE C X W b fb) (hm : behindInMarks .NotIn b = false := by rfl) : DE C X W (.Compare a [.NotIn] [b] pos) (op2 (inB true) fa fb) := d_cmp (op_notInA (by omega)) (by rw [hK]; exact s_in true) ha hb hm
theorem t_eq (hK : X.K = C.K) (hu : X.A.units + 64 < cLine) (ha : DE C X W a fa) (hb : DE C X W b fb) : DT C X W (.Compare a [.Eq] [b] pos) (cmpT eqD fa fb) := t_cmp (op_eqA hu) (by rw [hK]; exact s_eq) ha hb
theorem t_ne (hK : X.K = C.K) (hu : X.A.units + 64 < cLine) (ha : DE C X W a fa) (hb : DE C X W b fb) : DT C X W (.Compare a [.NotEq] [b] pos) (cmpT neD fa fb) := t_cmp (op_neA hu) (by rw [hK]; exact s_ne) ha hb
theorem t_lt (ha : DE C X W a fa) (hb : DE C X W b fb) : DT C X W (.Compare a [.Lt] [b] pos) (cmpT ltD fa fb) := t_cmp op_lt s_lt ha hb
theorem t_le (ha : DE C X W a fa) (hb : DE C X W b fb) : DT C X W (.Compare a [.LtE] [b] pos) (cmpT leD fa fb) := t_cmp op_le s_le ha hb
theorem t_gt (ha : DE C X W a fa) (hb : DE C X W b fb) : DT C X W (.Compare a [.Gt] [b] pos) (cmpT gtD fa fb) := t_cmp op_gt s_gt ha hb
theorem t_ge (ha : DE C X W a fa) (hb : DE C X W b fb) : DT C X W (.Compare a [.GtE] [b] pos) (cmpT geD fa fb) := t_cmp op_ge s_ge ha hb
theorem t_isN (ha : DE C X W a fa) (hb : DE C X W b fb) : DT C X W (.Compare a [.Is] [b] pos) (cmpT isNoneD fa fb) := t_cmp op_isN s_isN ha hb
theorem t_notN (ha : DE C X W a fa) (hb : DE C X W b fb) : DT C X W (.Compare a [.IsNot] [b] pos) (cmpT notNoneD fa fb) := t_cmp op_notN s_notN ha hb
theorem t_in (hK : X.K = C.K) (hu : X.A.units + 64 < cLine) (ha : DE C X W a fa) (hb : DE C X W b fb) (hm : behindInMarks .In b = false := by rfl) : DT C X W (.Compare a [.In] [b] pos) (cmpT (inB false) fa fb) := t_cmp (op_inA (by omega)) (by rw [hK]; exact s_in false) ha hb hm
theorem t_notin (hK : X.K = C.K) (hu : X.A.units + 64 < cLine) (ha : DE C X W a fa) (hb : DE C X W b fb) (hm : behindInMarks .NotIn b = false := by rfl) : DT C X W (.Compare a [.NotIn] [b] pos) (cmpT (inB true) fa fb) := t_cmp (op_notInA (by omega)) (by rw [hK]; exact s_in true) ha hb hm
theorem t_lele (ha : DE C X W a fa) (hb : DE C X W b fb) (hc : DE C X W c fc) (hm : lastMarks [.LtE, .LtE] [b, c] = false := by with_unfolding_all rfl) : DT C X W (.Compare a [.LtE, .LtE] [b, c] pos) (chainT leD leD fa fb fc) := t_chain op_le op_le s_le s_le ha hb hc hm
theorem e_lele (ha : DE C X W a fa) (hb : DE C X W b fb) (hc : DE C X W c fc) (hm : lastMarks [.LtE, .LtE] [b, c] = false := by with_unfolding_all rfl) : DE C X W (.Compare a [.LtE, .LtE] [b, c] pos) (chainE leD leD fa fb fc) := d_chain op_le op_le s_le s_le ha hb hc hm
theorem t_eqeq (hK : X.K = C.K) (hu : X.A.units + 64 < cLine) (ha : DE C X W a fa) (hb : DE C X W b fb) (hc : DE C X W c fc) (hm : lastMarks [.Eq, .Eq] [b, c] = false := by with_unfolding_all rfl) : DT C X W (.Compare a [.Eq, .Eq] [b, c] pos) (chainT eqD eqD fa fb fc) := t_chain (op_eqA hu) (op_eqA hu) (by rw [hK]; exact s_eq) (by rw [hK]; exact s_eq) ha hb hc hm
/-! built-ins -/
section
variable (hg : Gl X x)
theorem e_len (hK : X.K = C.K) (hm : X.mg "len" = none) (hg : Gl X "len") (ha : DA C X W (e :: es) fas)
    (he : starEach (e :: es) X.env = (false, eval e X.env) :: starEach es X.env := by rfl) (hpl : (backTo pos (starEach es X.env)).any (·.1) = false := by rfl) : DE C X W (.Call (.Name "len" p) (e :: es) [] pos) (callE lenF fas) :=
  d_callB (call_lenA (X := X)) (by rw [hK]; exact s_len) hg hm PySem.boot_len ha (by decide) (by decide) he hpl
theorem e_all (hK : X.K = C.K) (hc : X.calm = true) (hm : X.mg "all" = none) (hg : Gl X "all") (ha : DA C X W (e :: es) fas)
    (he : starEach (e :: es) X.env = (false, eval e X.env) :: starEach es X.env := by rfl) (hpl : (backTo pos (starEach es X.env)).any (·.1) = false := by rfl) : DE C X W (.Call (.Name "all" p) (e :: es) [] pos) (callE allF fas) :=
  d_callB (cr_all hc) (by rw [hK]; exact s_all) hg hm (by decide +kernel) ha (by decide) (by decide) he hpl
theorem e_any (hK : X.K = C.K) (hc : X.calm = true) (hm : X.mg "any" = none) (hg : Gl X "any") (ha : DA C X W (e :: es) fas)
    (he : starEach (e :: es) X.env = (false, eval e X.env) :: starEach es X.env := by rfl) (hpl : (backTo pos (starEach es X.env)).any (·.1) = false := by rfl) : DE C X W (.Call (.Name "any" p) (e :: es) [] pos) (callE anyF fas) :=
  d_callB (cr_any hc) (by rw [hK]; exact s_any) hg hm (by decide +kernel) ha (by decide) (by decide) he hpl
theorem e_tuple (hK : X.K = C.K) (hm : X.mg "tuple" = none) (hg : Gl X "tuple") (ha : DA C X W (e :: es) fas)
    (he : starEach (e :: es) X.env = (false, eval e X.env) :: starEach es X.env := by rfl) (hpl : (backTo pos (starEach es X.env)).any (·.1) = false := by rfl) : DE C X W (.Call (.Name "tuple" p) (e :: es) [] pos) (callE tupleF fas) :=
  d_callTy (call_tuple_of (X := X)) (by rw [hK]; exact s_tuple) hg hm (by decide +kernel) ha (by decide) (by decide) he hpl
theorem e_list (m : Bool) (hK : X.K = C.K) (hm : X.mg "list" = none) (hg : Gl X "list") (ha : DA C X W (e :: es) fas)
    (he : starEach (e :: es) X.env = (false, eval e X.env) :: starEach es X.env := by rfl) (hpl : (backTo pos (starEach es X.env)).any (·.1) = false := by rfl) : DE C X W (.Call (.Name "list" p) (e :: es) [] pos) (callE (listF m) fas) :=
  d_callTy (call_list_of (X := X)) (by rw [hK]; exact s_list m) hg hm (by decide +kernel) ha (by decide) (by decide) he hpl
end
theorem e_append (hK : X.K = C.K) {cpos : Pos} (ho : DE C X W o fo) (ha : DA C X W [e] fas)
    (hbase : attributeBase o "append" X.env (eval o X.env) = eval o X.env := by rfl)
    (hfew : ((backTo cpos (starEach [e] X.env)).all (fun x => !x.1) && (backToKw cpos (keywordEach [] X.env)).all (fun x => x.1.isSome)
      && decide ([e].length + ([] : List Keyword).length + (if ([] : List Keyword).isEmpty then 0 else 1) < 30)) = true := by rfl)
    (hline : (apos.endLine == cpos.line) = true := by rfl) (hs : starEach [e] X.env = (false, eval e X.env) :: starEach [] X.env := by rfl) (hplain : (backTo cpos (starEach [] X.env)).any (·.1) = false := by rfl) :
    DE C X W (.Call (.Attribute o "append" apos) [e] [] cpos) (bmE tyLst appendF fo fas) :=
  d_bm hK PySem.F.plainAttrs_list PySem.F.slot_list_append PySem.F.type_list_append mt_append s_append ty_lst ho ha hbase hfew hline hs hplain
end
/-! ### the top's facts, the defs -/
section
variable {P : Program} {w : World} {K : PySem.W.Frag} {mg : Str → Option Value} {base : Heap} {C : Ctx}
structure RawF (K : PySem.W.Frag) (mg : Str → Option Value) (x : Str) (st : Stmt) (ps : List Str) : Prop where
  ex : ∃ f fd, Fun K x x st f fd ∧ mg x = some (.ref f) ∧ Binds K fd ps []
structure RawM (K : PySem.W.Frag) (C : Ctx) (c : Nat) (m q : Str) (st : Stmt) (ps : List Str) : Prop where
  ex : ∃ A f fd, C.cl c = some A ∧ Meth K A m f ∧ Fun K m q st f fd ∧ Binds K fd ps []
structure RawK (K : PySem.W.Frag) (mg : Str → Option Value) (C : Ctx) (x : Str) (c : Nat) (q : Str) (st : Stmt) (ps : List Str) : Prop where
  ex : ∃ A f fd, C.cl c = some A ∧ mg x = some (.ref A) ∧ Mk K A f ∧ Fun K "__init__" q st f fd ∧ Binds K fd ps []
theorem GF.mk' {x : Str} {st : Stmt} {N ps : List Str} {k : Nat} {B : DS0} (R : RawF K mg x st ps) (S : FnScope N ps (defScope st))
    (h : ∀ (f : Addr) (cdv : Value) (A : Around) (outer : List Env) (s : Shared) (H : Hp) (E : XK), Room k (A.deeper (envOfC x (defScope st) s.heap.objs.size f cdv)) →
      DSs C (cxOf (L2.CX P w) P w K mg base N x (defScope st) f cdv A outer s H E) (fun cv dx _ H' => E cv dx H') (defBody st) B) : GF P w K mg base C x (k + 1) ps.length (runFn N.length B) := by
  obtain ⟨f, fd, F, hm, hb⟩ := R.ex
  exact ⟨f, fd, ps, rfl, fn_okD F S (h f), hm, F.kp, hb⟩
theorem GM.mk' {c : Nat} {m q : Str} {st : Stmt} {N ps : List Str} {k : Nat} {B : DS0} (R : RawM K C c m q st ps) (S : FnScope N ps (defScope st))
    (h : ∀ (f : Addr) (cdv : Value) (A : Around) (outer : List Env) (s : Shared) (H : Hp) (E : XK), Room k (A.deeper (envOfC q (defScope st) s.heap.objs.size f cdv)) →
      DSs C (cxOf (L2.CX P w) P w K mg base N q (defScope st) f cdv A outer s H E) (fun cv dx _ H' => E cv dx H') (defBody st) B) : GM P w K mg base C c m (k + 1) ps.length (runFn N.length B) := by
  obtain ⟨A, f, fd, h1, h2, F, hb⟩ := R.ex
  exact ⟨A, f, fd, ps, h1, h2, rfl, fn_okD F S (h f), hb⟩
theorem GK.mk' {x q : Str} {c : Nat} {st : Stmt} {N ps : List Str} {k : Nat} {B : DS0} (R : RawK K mg C x c q st ps) (S : FnScope N ps (defScope st))
    (h : ∀ (f : Addr) (cdv : Value) (A : Around) (outer : List Env) (s : Shared) (H : Hp) (E : XK), Room k (A.deeper (envOfC q (defScope st) s.heap.objs.size f cdv)) →
      DSs C (cxOf (L2.CX P w) P w K mg base N q (defScope st) f cdv A outer s H E) (fun cv dx _ H' => E cv dx H') (defBody st) B) : GK P w K mg base C x c (k + 1) ps.length (runFn N.length B) := by
  obtain ⟨A, f, fd, h1, h2, h3, F, hb⟩ := R.ex
  exact ⟨A, f, fd, ps, h1, h2, h3, rfl, fn_okD F S (h f), hb⟩
/-- a module's constant -/
structure Cst (K : PySem.W.Frag) (mg : Str → Option Value) (x : Str) (d : D) : Prop where
  ex : ∃ u v, mg x = some u ∧ RelV v u ∧ ∀ g, Shr K g d v
theorem d_cst {X : Cx} {W : WX} {x : Str} {d : D} {pos : Pos} (hK : X.K = C.K) (c : Cst X.K X.mg x d) (hg : Gl X x) (hd : (x == ("__debug__" : Str)) = false := by decide) : DE C X W (.Name x pos) (constE d) := by
  obtain ⟨u, v, h1, h2, h3⟩ := c.ex
  exact d_glob hg h1 h2 (fun g => hK ▸ h3 g) hd
theorem passes_cx {CX : CXT} {N : List Str} {qual : Str} {scope : Scope} {f : Addr} {cd : Value} {A : Around} {outer : List Env} {s : Shared} {H : Hp} {E : XK} :
    PassesOwn (model P w) (cxOf CX P w K mg base N qual scope f cd A outer s H E).A (cxOf CX P w K mg base N qual scope f cd A outer s H E).env (cxOf CX P w K mg base N qual scope f cd A outer s H E).xe := passes_of rfl
theorem takes_cx {N : List Str} {qual : Str} {scope : Scope} {f : Addr} {cd : Value} {A : Around} {outer : List Env} {s : Shared} {H : Hp} {E : XK} :
    Takes (cxOf (L2.CX P w) P w K mg base N qual scope f cd A outer s H E) (fun cv dx _ H' => E cv dx H') := takes_of rfl rfl rfl rfl
end
end Dn
set_option linter.all false
namespace Dn
open PySem PySem.Spec PyProof.Rows L2
theorem hu1 {u : Nat} (h : u + 64 < cLine) : u + 1 < cLine := by omega
section
variable {P : Program} {w : World} {K : PySem.W.Frag} {mg : Str → Option Value} {base : Heap} {C : Ctx} {k : Nat}
theorem fn_bad {f : Addr} {fd : FuncData} {ps : List Str} {np : Nat} : FnOk P w K mg base (L2.CX P w) k f fd ps (spD C np fun _ _ => .bad) :=
  ⟨fun vs H Q E ⟨g, O, ds, _, _, _, h⟩ => h.elim, fun A outer s H args us vs Q E _ _ _ _ ⟨g, O, ds, _, _, _, h⟩ => h.elim⟩
theorem GF.bad {x : Str} {st : Stmt} {ps : List Str} (R : RawF K mg x st ps) : GF P w K mg base C x k ps.length fun _ _ => .bad := by
  obtain ⟨f, fd, F, hm, hb⟩ := R.ex
  exact ⟨f, fd, ps, rfl, fn_bad, hm, F.kp, hb⟩
theorem GM.bad {c : Nat} {m q : Str} {st : Stmt} {ps : List Str} (R : RawM K C c m q st ps) : GM P w K mg base C c m k ps.length fun _ _ => .bad := by
  obtain ⟨A, f, fd, h1, h2, F, hb⟩ := R.ex
  exact ⟨A, f, fd, ps, h1, h2, rfl, fn_bad, hb⟩
end
end Dn
namespace Dn
open PySem PySem.Spec PyProof.Rows L2
theorem blkX {N : List Str} {sc scope : Scope} {own : List (Str × Nat)} (h : blkC N sc scope own = true) : blkC N sc scope own = true := h
end Dn
set_option Elab.async false
set_option linter.all false
set_option maxRecDepth 100000
set_option maxHeartbeats 2000000
namespace Dn
open PySem PySem.Spec PyProof.Rows L2
section
variable {P : Program} {w : World} {K : PySem.W.Frag} {mg : Str → Option Value} {base h : Heap} {C : Dn.Ctx}
/-- a def as the top has written it -/
def FactF (K : PySem.W.Frag) (x q : Str) (st : Stmt) (f : Addr) : Prop := ∃ (oc : Value) (od an : Option Addr) (sl : Array (Option Value)) (kV dc pm cd ct : Value),
  K.lookup f = some ⟨oc, od, .func (PySem.W.fnOf x q (defArgs st) (defBody st) (defScope st) .none kV dc pm an cd ct), sl⟩ ∧ PySem.W.codeIn K cd q = true ∧ PySem.W.keepIn K (.ref f) = true
/-- how many arguments it takes -/
def BindOk (x q : Str) (st : Stmt) (ps : List Str) : Prop := ∀ (kV doc pm : Value) (an : Option Addr) (cdv ct : Value) (us : List Value), us.length = ps.length → bindArgs (PySem.W.fnOf x q (defArgs st) (defBody st) (defScope st) .none kV doc pm an cdv ct) ⟨us, []⟩ = pure (ps.zip us)
theorem rawF_mk {x : Str} {st : Stmt} {ps : List Str} {f : Addr} (X : K.In h) (G : h.Ns mainGlobals mg) (hb : BindOk x x st ps) (a : PySem.W.nsIn K mainGlobals x = some (some (.ref f))) (F : FactF K x x st f) : RawF K mg x st ps := by
  obtain ⟨oc, od, an, sl, kV, dc, pm, cd, ct, l, c, k⟩ := F
  exact ⟨f, _, fun_mk l c k, PySem.W.mg_of X G a, (fun_mk l c k).binds hb⟩
def FactC (K : PySem.W.Frag) (A : Addr) : Prop := PySem.W.plainGet K A Str.empty = true ∧ PySem.W.hasDictIn K A = true ∧ PySem.W.plainOver K A = true ∧ PySem.W.findIn K (.ref A) "__setattr__" = some (some (.builtin "object.__setattr__"))
theorem cls_mk {A : Addr} (F : FactC K A) : Cls K A := ⟨F.1, F.2.1, F.2.2.1, F.2.2.2⟩
theorem rawM_mk {c : Nat} {m q : Str} {st : Stmt} {ps : List Str} {A f : Addr} (hb : BindOk m q st ps) (hc : C.cl c = some A) (a : PySem.W.findIn K (.ref A) m = some (some (.ref f))) (i : PySem.W.isFn K (.ref f) = true) (F : FactF K m q st f) : RawM K C c m q st ps := by
  obtain ⟨oc, od, an, sl, kV, dc, pm, cd, ct, l, c', k⟩ := F
  exact ⟨A, f, _, hc, ⟨a, i, k⟩, fun_mk l c' k, (fun_mk l c' k).binds hb⟩
theorem rawK_mk {x q : Str} {c : Nat} {st : Stmt} {ps : List Str} {A f : Addr} (X : K.In h) (G : h.Ns mainGlobals mg) (hb : BindOk "__init__" q st ps) (hc : C.cl c = some A) (aC : PySem.W.nsIn K mainGlobals x = some (some (.ref A))) (mk : PySem.W.makesIn K A = true) (kc : PySem.W.keepIn K (.ref A) = true)
    (a : PySem.W.findIn K (.ref A) "__init__" = some (some (.ref f))) (i : PySem.W.isFn K (.ref f) = true) (F : FactF K "__init__" q st f) : RawK K mg C x c q st ps := by
  obtain ⟨oc, od, an, sl, kV, dc, pm, cd, ct, l, c', k⟩ := F
  exact ⟨A, f, _, hc, PySem.W.mg_of X G aC, ⟨mk, a, i, kc⟩, fun_mk l c' k, (fun_mk l c' k).binds hb⟩
/-- constants of the module -/
theorem cst_str {x : Str} {l : List Nat} {z : Str} {t : Tok} (X : K.In h) (G : h.Ns mainGlobals mg) (hz : z = ⟨l.toArray⟩) (a : PySem.W.nsIn K mainGlobals x = some (some (.str z t))) : Cst K mg x (.str l) :=
  ⟨_, .str z, PySem.W.mg_of X G a, ⟨t, rfl⟩, fun g => by subst hz; rfl⟩
theorem cst_int {x : Str} {i : Int} {t : Tok} (X : K.In h) (G : h.Ns mainGlobals mg) (a : PySem.W.nsIn K mainGlobals x = some (some (.int i t))) : Cst K mg x (.int i) :=
  ⟨_, .int i, PySem.W.mg_of X G a, ⟨t, rfl⟩, fun g => rfl⟩
/-- a tuple of texts -/
theorem cst_strs {x : Str} {ls : List (List Nat)} {zs : List Str} {p : Addr} {dd : Option Addr} {its : Array Value} {n : Nat} {sl : Array (Option Value)} (X : K.In h) (G : h.Ns mainGlobals mg) (a : PySem.W.nsIn K mainGlobals x = some (some (.ref p)))
    (l : K.lookup p = some ⟨.type "tuple", dd, .seq its n, sl⟩) (hz : zs = ls.map fun l => ⟨l.toArray⟩) (hi : Paired (fun (z : Str) (u : Value) => ∃ t, u = Value.str z t) zs its.toList) (hl : its.size ≤ sizeLine) : Cst K mg x (.tup (ls.map D.str)) := by
  refine ⟨_, .ref p, PySem.W.mg_of X G a, rfl, fun g => ?_⟩
  simp only [Shr]
  refine ⟨p, zs.map V.str, rfl, .inr ⟨_, its, n, l, rfl, rfl, hl, ?_⟩, ?_⟩
  · clear l
    generalize its.toList = us at hi
    clear hz
    induction hi with
    | nil => exact .nil
    | cons r _ ih => exact .cons r ih
  · subst hz
    clear hi
    induction ls with
    | nil => simp [ShrL]
    | cons y ys ih =>
      simp only [List.map_cons, ShrL]
      exact ⟨_, _, rfl, rfl, ih⟩
/-! ### the end -/
/-- law's promise: at most 63 ints in, True out -/
def spLaw (K : PySem.W.Frag) : Sp := fun vs H Q _ => ∃ (a : Addr) (ns : List Int), vs = [.ref a] ∧ SqL K H a (ns.map V.int) ∧ ns.length ≤ 63 ∧ ∀ H', Q (.bl true) H'
theorem law_imp {CX : CXT} {k : Nat} {f : Addr} {fd : FuncData} {x : Str} {fn : Fn} (hK : C.K = K) (main : ∀ ns : List Int, ns.length ≤ 63 → ∃ O, fn [.scr (ns.map D.int)] [] = .ok (.bl true) O) (F : FnOk P w K mg base CX k f fd [x] (spD C 1 fn)) :
    FnOk P w K mg base CX k f fd [x] (spLaw K) := F.imp fun vs H Q E ⟨a, ns, h1, h2, h3, h4⟩ => by
  subst h1
  obtain ⟨O, e⟩ := main ns h3
  refine ⟨⟨H, fun _ => 0, 0⟩, [], [.scr (ns.map D.int)], rfl, ⟨rfl, fun _ _ h => h, fun l c e => by simp at e, fun l hl => absurd hl (Nat.not_lt_zero _), fun i j hi => absurd hi (Nat.not_lt_zero _)⟩, ?_, ?_⟩
  · simp only [ShrL, Shr]
    exact ⟨_, [], rfl, ⟨a, ns.map V.int, rfl, hK ▸ h2, shrL_ints ns⟩, rfl⟩
  · rw [e]
    intro v g' H' _ _ s
    have s : v = .bl true := s
    subst s
    exact h4 H'
theorem cx_none {s : Shared} {e : Value} {s' : Shared} {H : Hp} : L2.CX P w [] H s (fun _ _ _ => False) e s' → False := fun hx => by
  obtain ⟨_, _, _, _, _, _, _, _, _, _, _, _, z⟩ := hx
  exact z.elim
theorem walkD {l : PySem.W.OpenLaw} {q : Program} {loose : List Str} {XP : (Str → Option Value) → Heap → Prop} {YP : World → Heap → Prop} {d : DefRec} {K : Params → PySem.W.Frag} {x : Str} {k : Nat} (hn : l.most = some 63) (hdf : d.params.defaults = []) (hr : Room k callerA)
    (hY : ∀ (w : World) (h : Heap), YP w h → (K w.params).In h)
    (F : ∀ (w : World) (mg : Str → Option Value) (fa : Addr) (h : Heap), (K w.params).In h → h.Ns mainGlobals mg → mg d.name = some (.ref fa) →
      ∃ fd : FuncData, (∀ (s : Shared) (u : Value), BindsTo s fd ⟨[u], []⟩ [(x, u)]) ∧ ∀ base : Heap, (K w.params).In base → base.Ns mainGlobals mg → FnOk l.prog w (K w.params) mg base (L2.CX l.prog w) k fa fd [x] (spLaw (K w.params))) :
    PySem.W.WalkO q loose XP YP l.row.toRowW d [] (fun f vs => PySem.call f vs) :=
  L2.walk_of (n := 63) (k := k) (x := x) (CX := fun w => L2.CX l.prog w) (sp := fun w => spLaw (K w.params)) hn (by decide) hdf hr hY F (fun _ _ a ns hl _ hS => ⟨a, ns, rfl, hS, hl, fun _ => rfl⟩) fun _ _ _ _ _ z => cx_none z
/-- the law's own def, from all -/
theorem law_end {x : Str} {st : Stmt} {k : Nat} {fn : Fn} {fa : Addr} (hK : C.K = K) (X : K.In h) (G : h.Ns mainGlobals mg) (hfa : mg "law" = some (.ref fa)) (hb : BindOk "law" "law" st [x]) {f : Addr} (a : PySem.W.nsIn K mainGlobals "law" = some (some (.ref f))) (F : FactF K "law" "law" st f)
    (main : ∀ ns : List Int, ns.length ≤ 63 → ∃ O, fn [.scr (ns.map D.int)] [] = .ok (.bl true) O)
    (ok : ∀ base : Heap, K.In base → base.Ns mainGlobals mg → ∀ fd, Fun K "law" "law" st f fd → FnOk P w K mg base (L2.CX P w) k f fd [x] (spD C 1 fn)) :
    ∃ fd : FuncData, (∀ (s : Shared) (u : Value), BindsTo s fd ⟨[u], []⟩ [(x, u)]) ∧ ∀ base : Heap, K.In base → base.Ns mainGlobals mg → FnOk P w K mg base (L2.CX P w) k fa fd [x] (spLaw K) := by
  have e := hfa.symm.trans (PySem.W.mg_of X G a)
  cases e
  obtain ⟨oc, od, an, sl, kV, dc, pm, cd, ct, l, c', k⟩ := F
  refine ⟨_, fun s u => .of_eq (hb kV dc pm an cd ct [u] rfl), fun base B1 B2 => law_imp hK main (ok base B1 B2 _ (fun_mk l c' k))⟩
end
end Dn
set_option Elab.async false
set_option linter.all false
set_option maxRecDepth 100000
set_option maxHeartbeats 2000000
namespace Dn
open PySem PySem.Spec PyProof.Rows L2
section
variable {C : Ctx} {X : Cx} {W : WX} {pos px py pz pt : Pos} {fas : Rho → Sto → Res (List D)}
/-! ### several names at once -/
def parS (i j : Nat) (fas : Rho → Sto → Res (List D)) : DS0 := fun r O => (fas r O).bindS r fun ds O1 => match ds with | [a, b] => .nx ((r.set i (some a)).set j (some b)) O1 | _ => .bad
theorem s_par (i j : Nat) {x y : Str} {a b : Expr} {kt k2 pt2} (hc : X.calm = true) (hN : X.N.Nodup) (ha : DA C X W [a, b] fas) (hi : X.N[i]? = some x := by rfl) (hj : X.N[j]? = some y := by rfl) (hij : i ≠ j := by decide)
    (hx : X.env.scope.names.lookup x = some .local := by first | rfl | assumption) (hy : X.env.scope.names.lookup y = some .local := by first | rfl | assumption)
    (hw : swappedStores [.Tuple [.Name x px, .Name y py] kt pt] (.Tuple [a, b] k2 pt2) X.env = pure (some [x, y]) := by rfl)
    (hs : swapsWithSole [.Tuple [.Name x px, .Name y py] kt pt] (.Tuple [a, b] k2 pt2) pos.line X.env = pure false := by rfl) :
    DS C X W (.Assign [.Tuple [.Name x px, .Name y py] kt pt] (.Tuple [a, b] k2 pt2) pos) (parS i j fas) :=
  let ⟨_, p, s⟩ := ha.ex
  ⟨_, ps_par hc hN hi hj hij hx hy p hw hs, fun g σ H r O R S E h => s.seqS R S h fun ds O1 vs g1 H1 e1 R1 S1 s1 h1 => by
    have s1 : ShrL C.K g1 ds vs := s1
    match ds, s1, h1 with
    | [], _, h1 => exact h1.elim
    | [_], _, h1 => exact h1.elim
    | _ :: _ :: _ :: _, _, h1 => exact h1.elim
    | [d1, d2], s1, h1 =>
      simp only [ShrL] at s1
      obtain ⟨v, q, rfl, sv, w, q2, rfl, sw, rfl⟩ := s1
      exact ⟨v, w, rfl, h1 _ g1 H1 (Ext.refl R1) R1 ((S1.set sv).set sw)⟩⟩
def parS3 (i j l : Nat) (fas : Rho → Sto → Res (List D)) : DS0 := fun r O => (fas r O).bindS r fun ds O1 => match ds with | [a, b, c] => .nx (((r.set i (some a)).set j (some b)).set l (some c)) O1 | _ => .bad
theorem s_par3 (i j l : Nat) {x y z : Str} {a b c : Expr} {kt k2 pt2} (hc : X.calm = true) (hN : X.N.Nodup) (ha : DA C X W [a, b, c] fas) (hi : X.N[i]? = some x := by rfl) (hj : X.N[j]? = some y := by rfl) (hl : X.N[l]? = some z := by rfl) (hij : i ≠ j := by decide) (hil : i ≠ l := by decide) (hjl : j ≠ l := by decide)
    (hx : X.env.scope.names.lookup x = some .local := by first | rfl | assumption) (hy : X.env.scope.names.lookup y = some .local := by first | rfl | assumption) (hz : X.env.scope.names.lookup z = some .local := by first | rfl | assumption)
    (hw : swappedStores [.Tuple [.Name x px, .Name y py, .Name z pz] kt pt] (.Tuple [a, b, c] k2 pt2) X.env = pure (some [x, y, z]) := by rfl)
    (hs : swapsWithSole [.Tuple [.Name x px, .Name y py, .Name z pz] kt pt] (.Tuple [a, b, c] k2 pt2) pos.line X.env = pure false := by rfl) :
    DS C X W (.Assign [.Tuple [.Name x px, .Name y py, .Name z pz] kt pt] (.Tuple [a, b, c] k2 pt2) pos) (parS3 i j l fas) :=
  let ⟨_, p, s⟩ := ha.ex
  ⟨_, ps_par3 hc hN hi hj hl hij hil hjl hx hy hz p hw hs, fun g σ H r O R S E h => s.seqS R S h fun ds O1 vs g1 H1 e1 R1 S1 s1 h1 => by
    have s1 : ShrL C.K g1 ds vs := s1
    match ds, s1, h1 with
    | [], _, h1 => exact h1.elim
    | [_], _, h1 => exact h1.elim
    | [_, _], _, h1 => exact h1.elim
    | _ :: _ :: _ :: _ :: _, _, h1 => exact h1.elim
    | [d1, d2, d3], s1, h1 =>
      simp only [ShrL] at s1
      obtain ⟨v, q, rfl, sv, w, q2, rfl, sw, u, q3, rfl, su, rfl⟩ := s1
      exact ⟨v, w, u, rfl, h1 _ g1 H1 (Ext.refl R1) R1 (((S1.set sv).set sw).set su)⟩⟩
/-! ### what is never reached -/
def badS : DS0 := fun _ _ => .bad
def badE : DE0 := fun _ _ => .bad
theorem s_bad {st : Stmt} : DS C X W st badS := ⟨fun _ _ _ => False, ⟨fun _ _ _ _ _ _ h => h.elim⟩, fun _ _ _ _ _ _ _ _ h => h.elim⟩
theorem e_bad {e : Expr} : DE C X W e badE := ⟨fun _ _ _ => False, ⟨fun _ _ _ _ _ _ h => h.elim⟩, fun _ _ _ _ _ _ _ _ h => h.elim⟩
end
end Dn
set_option Elab.async false
set_option linter.all false
set_option maxRecDepth 100000
set_option maxHeartbeats 2000000
namespace Dn
open PySem PySem.Spec PyProof.Rows L2
/-- texts of a list -/
def strsD : List D → Option (List (List Nat))
  | [] => some []
  | .str x :: ds => match strsD ds with | some ys => some (x :: ys) | none => none
  | _ :: _ => none
section
variable {C : Ctx} {X : Cx} {W : WX} {g : G}
abbrev mkS (x : List Nat) : Str := ⟨x.toArray⟩
theorem tl_mkS (x : List Nat) : TL.tl (mkS x) = x := rfl
theorem map_tl_mkS : ∀ ys : List (List Nat), (ys.map mkS).map TL.tl = ys
  | [] => rfl
  | y :: ys => by rw [List.map_cons, List.map_cons, map_tl_mkS ys]
theorem shrL_strs {K : PySem.W.Frag} : ∀ {ds : List D} {ys : List (List Nat)} {vs : List V}, strsD ds = some ys → ShrL K g ds vs → vs = (ys.map mkS).map V.str
  | [], ys, vs, e, s => by simp [strsD] at e; subst e; simp only [ShrL] at s; rw [s]; first | rfl | done
  | d :: ds, ys, vs, e, s => by
    cases d with
    | str x =>
      simp only [strsD] at e
      split at e
      · rename_i zs ez
        cases e
        simp only [ShrL] at s
        obtain ⟨v, q, rfl, sv, sq⟩ := s
        cases sv
        rw [shrL_strs ez sq]; rfl
      · cases e
    | _ => simp [strsD] at e
theorem strs_shrL {K : PySem.W.Frag} : ∀ (ys : List (List Nat)), ShrL K g (ys.map D.str) ((ys.map mkS).map V.str)
  | [] => by simp [ShrL]
  | y :: ys => by simp only [List.map_cons, ShrL]; exact ⟨_, _, rfl, rfl, strs_shrL ys⟩
/-- s.join(xs) -/
def joinF : D → List D → Sto → ER := fun d ds O => match d, ds with
  | .str a, [x] => (match seqR x O with
    | some xs => (match strsD xs with | some ys => if (ys.map (·.length)).sum + ys.length * a.length ≤ 16777216 then .ok (.str (TL.joinL a ys)) O else .bad | none => .bad)
    | none => .bad)
  | _, _ => .bad
theorem s_join : SatM C W (fun x xs H Q => ∃ a p, ∃ ys : List Str, x = .str a ∧ xs = [.ref p] ∧ (SqL C.K H p (ys.map V.str) ∨ SqT C.K H p (ys.map V.str)) ∧
    (ys.map (·.length)).sum + ys.length * a.length ≤ 16777216 ∧ Q (.str (Txt.join a ys)) H) joinF := by
  intro g H O R d ds v vs s sl σ Q h
  unfold joinF at h
  split at h
  · rename_i a x
    cases s
    obtain ⟨w, rfl, sy⟩ := shrL_one sl
    split at h
    · rename_i xs e
      split at h
      · rename_i ys ey
        split at h
        · rename_i hz
          obtain ⟨p, ws, rfl, h2, h3⟩ := seqR_of R sy e
          have h4 := shrL_strs ey h3
          subst h4
          refine ⟨mkS a, p, ys.map mkS, rfl, rfl, h2, ?_, ?_⟩
          · rw [List.map_map, List.length_map]
            have : (fun z : Str => z.length) ∘ mkS = List.length := by funext z; simp [mkS, Str.length]
            show (ys.map ((fun z : Str => z.length) ∘ mkS)).sum + ys.length * (mkS a).length ≤ 16777216
            rw [this]
            have h5 : (mkS a).length = a.length := by simp [mkS, Str.length]
            rw [h5]; exact hz
          · refine h _ g H (Ext.refl R) R ?_
            show V.str (Txt.join (mkS a) (ys.map mkS)) = .str (mkS (TL.joinL a ys))
            congr 1
            refine TL.ext_tl ?_
            rw [TL.join_eq, TL.tl_join, map_tl_mkS]
        · exact h.elim
      · exact h.elim
    · exact h.elim
  · exact h.elim
/-- s.split(t) -/
def splitF (m : Bool) : D → List D → Sto → ER := fun d ds O => match d, ds with
  | .str a, [.str b] => if decide (b ≠ []) && b.all (· < 256) && decide (a.length ≤ 16000000) then mkL m ((TL.spl b 0 [] a).map D.str) O else .bad
  | _, _ => .bad
theorem s_split (m : Bool) : SatM C W (fun x xs H Q => ∃ a b, x = .str a ∧ xs = [.str b] ∧ (b.length == 0) = false ∧ a.length + 2 ≤ sizeLine ∧ rNewStrs (Txt.split a b) H Q) (splitF m) := by
  intro g H O R d ds v vs s sl σ Q h
  unfold splitF at h
  split at h
  · rename_i a b
    cases s
    obtain ⟨w, rfl, sy⟩ := shrL_one sl
    cases sy
    split at h
    · rename_i hc
      simp only [Bool.and_eq_true, decide_eq_true_eq] at hc
      obtain ⟨⟨hb, hk⟩, hz⟩ := hc
      have hlen : ∀ z : List Nat, (mkS z).length = z.length := fun z => by simp [mkS, Str.length]
      refine ⟨mkS a, mkS b, rfl, rfl, ?_, ?_, fun p hp => ?_⟩
      · rw [hlen]
        cases b with
        | nil => exact absurd rfl hb
        | cons => rfl
      · rw [hlen]
        have : sizeLine = 2 ^ 24 := rfl
        rw [this]; omega
      · have e := TL.split_spl (mkS a) (mkS b) hb (TL.kind_ok (by rw [← Array.all_toList]; exact hk))
        have e2 : Txt.split (mkS a) (mkS b) = (TL.spl b 0 [] a).map mkS := TL.map_tl_inj (by rw [e, map_tl_mkS])
        rw [e2]
        exact new_lst R (strs_shrL _) h hp
    · exact h.elim
  · exact h.elim
/-- s * n -/
def mulSD : O2 := fun a b O => match a, b with
  | .str x, .int k => if decide (x ≠ []) && decide (2 ≤ k) && decide (k ≤ 1000) && decide (x.length ≤ 1000) then .ok (.str (List.replicate k.toNat x).flatten) O else .bad
  | _, _ => .bad
def rRepS : R2 := fun x y H Q => ∃ (a : List Nat) (k : Int), x = .str (mkS a) ∧ y = .int k ∧ a ≠ [] ∧ 2 ≤ k ∧ k ≤ 1000 ∧ a.length ≤ 1000 ∧ Q (.str (mkS (List.replicate k.toNat a).flatten)) H
theorem fold_app (a : Array Nat) : ∀ (n : Nat) (b : Array Nat), ((List.replicate n a).foldl (· ++ ·) b) = (b.toList ++ (List.replicate n a.toList).flatten).toArray
  | 0, b => by simp
  | n + 1, b => by
    rw [List.replicate_succ, List.foldl_cons, fold_app a n, List.replicate_succ, List.flatten_cons]
    simp
theorem op_repS : OpR X (binaryOp .Mult) rRepS := by
  intro pins s σ H x y v u Q I rx ry h
  obtain ⟨a, k, rfl, rfl, hne, h1, h2, h3, q⟩ := h
  obtain ⟨t, rfl⟩ := rx
  obtain ⟨t', rfl⟩ := ry
  have hl : (mkS a).length = a.length := by simp [mkS, Str.length]
  have h0 : a.length ≠ 0 := fun e => hne (List.eq_nil_of_length_eq_zero e)
  refine P.mul_str ?_ ?_ ?_ ?_
  · rw [decide_eq_false (by omega), decide_eq_false (by omega)]; rfl
  · intro _ _ hh
    rw [hl] at hh
    have h4 : (9223372036854775807 : Int) / k * 1000 ≥ 0 := by
      have : (0 : Int) ≤ 9223372036854775807 / k := Int.ediv_nonneg (by omega) (by omega)
      omega
    have h5 : (1000 : Int) ≤ 9223372036854775807 / k := by
      refine (Int.le_ediv_iff_mul_le (by omega)).mpr ?_
      omega
    have h6 : ((2 : Int) ^ 63 - 1) = 9223372036854775807 := by decide
    rw [h6] at hh
    omega
  · intro _ _
    rw [hl]
    have h4 : a.length * k.toNat ≤ 1000 * 1000 := Nat.mul_le_mul h3 (by omega)
    simp only [Builtin.Str.tooLong, decide_eq_false_iff_not]
    have : sizeLine = 2 ^ 24 := rfl
    omega
  · rw [if_neg (by omega)]
    have hb : (k == 1 || (mkS a).length == 0) = false := by
      rw [hl, Bool.or_eq_false_iff]
      exact ⟨beq_eq_false_iff_ne.mpr (by omega), beq_eq_false_iff_ne.mpr h0⟩
    rw [if_neg (by rw [hb]; decide)]
    have e : (⟨(List.replicate k.toNat (mkS a).cps).foldl (· ++ ·) #[]⟩ : Str) = mkS (List.replicate k.toNat a).flatten := by
      rw [fold_app]; simp [mkS]
    rw [e]
    have h4 : k.toNat * a.length ≤ 1000 * 1000 := Nat.mul_le_mul (by omega) h3
    refine ⟨?_, ⟨.str (mkS (List.replicate k.toNat a).flatten), H, I.tok _, ⟨s.toks, rfl⟩, q⟩⟩
    have h7 : (mkS (List.replicate k.toNat a).flatten).length = k.toNat * a.length := by simp [mkS, Str.length]
    have : sizeLine = 2 ^ 24 := rfl
    rw [h7, this]; omega
theorem s_mulS : Sat2 C W rRepS mulSD := by
  intro g H O R a b x y sx sy σ Q h
  unfold mulSD at h
  split at h
  · cases sx; cases sy
    split at h
    · rename_i hc
      simp only [Bool.and_eq_true, decide_eq_true_eq] at hc
      exact ⟨_, _, rfl, rfl, hc.1.1.1, hc.1.1.2, hc.1.2, hc.2, Post.fin R rfl h⟩
    · exact h.elim
  · exact h.elim
variable {o e : Expr} {fo fa fb : DE0} {apos cpos pos : Pos} {a b : Expr} {fas : Rho → Sto → Res (List D)}
theorem e_mulS (ha : DE C X W a fa) (hb : DE C X W b fb) : DE C X W (.BinOp a .Mult b pos) (op2 mulSD fa fb) := d_op op_repS s_mulS ha hb
theorem e_join (hK : X.K = C.K) (ho : DE C X W o fo) (ha : DA C X W [e] fas)
    (hbase : attributeBase o "join" X.env (eval o X.env) = eval o X.env := by rfl)
    (hfew : ((backTo cpos (starEach [e] X.env)).all (fun x => !x.1) && (backToKw cpos (keywordEach [] X.env)).all (fun x => x.1.isSome)
      && decide ([e].length + ([] : List Keyword).length + (if ([] : List Keyword).isEmpty then 0 else 1) < 30)) = true := by rfl)
    (hline : (apos.endLine == cpos.line) = true := by rfl) (hs : starEach [e] X.env = (false, eval e X.env) :: starEach [] X.env := by rfl) (hplain : (backTo cpos (starEach [] X.env)).any (·.1) = false := by rfl) :
    DE C X W (.Call (.Attribute o "join" apos) [e] [] cpos) (bmE tyStr joinF fo fas) :=
  d_bm hK PySem.F.plainAttrs_str PySem.F.slot_str_join PySem.F.type_str_join mt_join (by rw [hK]; exact s_join) ty_str ho ha hbase hfew hline hs hplain
theorem e_split (m : Bool) (hK : X.K = C.K) (ho : DE C X W o fo) (ha : DA C X W [e] fas)
    (hbase : attributeBase o "split" X.env (eval o X.env) = eval o X.env := by rfl)
    (hfew : ((backTo cpos (starEach [e] X.env)).all (fun x => !x.1) && (backToKw cpos (keywordEach [] X.env)).all (fun x => x.1.isSome)
      && decide ([e].length + ([] : List Keyword).length + (if ([] : List Keyword).isEmpty then 0 else 1) < 30)) = true := by rfl)
    (hline : (apos.endLine == cpos.line) = true := by rfl) (hs : starEach [e] X.env = (false, eval e X.env) :: starEach [] X.env := by rfl) (hplain : (backTo cpos (starEach [] X.env)).any (·.1) = false := by rfl) :
    DE C X W (.Call (.Attribute o "split" apos) [e] [] cpos) (bmE tyStr (splitF m) fo fas) :=
  d_bm hK PySem.F.plainAttrs_str PySem.F.slot_str_split PySem.F.type_str_split mt_split (s_split m) ty_str ho ha hbase hfew hline hs hplain
end
end Dn
set_option Elab.async false
set_option linter.all false
set_option maxRecDepth 100000
set_option maxHeartbeats 2000000
namespace Dn
open PySem PySem.Spec PyProof.Rows L2
section
variable {C : Ctx} {X : Cx} {W : WX} {o e : Expr} {fo : DE0} {fas : Rho → Sto → Res (List D)} {apos cpos : Pos}
def startswithF : D → List D → Sto → ER := fun d ds O => match d, ds with
  | .str a, [.str b] => .ok (.bl (decide (b.length ≤ a.length) && (a.take b.length == b))) O
  | _, _ => .bad
theorem s_startswith : SatM C W (fun x xs H Q => ∃ a b, x = .str a ∧ xs = [.str b] ∧ Q (.bl (Txt.startswith a b)) H) startswithF := by
  intro g H O R d ds v vs s sl σ Q h
  unfold startswithF at h
  split at h
  · rename_i a b
    cases s
    obtain ⟨w, rfl, sy⟩ := shrL_one sl
    cases sy
    refine ⟨mkS a, mkS b, rfl, rfl, ?_⟩
    have hlen : ∀ z : List Nat, (mkS z).length = z.length := fun z => by simp [mkS, Str.length]
    have e : Txt.startswith (mkS a) (mkS b) = (decide (b.length ≤ a.length) && (a.take b.length == b)) := by
      unfold Txt.startswith
      rw [StrLaws.subAt_eq, hlen, hlen, Nat.zero_add]
      rfl
    rw [e]
    exact Post.fin R rfl h
  · exact h.elim
theorem e_startswith (hK : X.K = C.K) (ho : DE C X W o fo) (ha : DA C X W [e] fas)
    (hbase : attributeBase o "startswith" X.env (eval o X.env) = eval o X.env := by rfl)
    (hfew : ((backTo cpos (starEach [e] X.env)).all (fun x => !x.1) && (backToKw cpos (keywordEach [] X.env)).all (fun x => x.1.isSome)
      && decide ([e].length + ([] : List Keyword).length + (if ([] : List Keyword).isEmpty then 0 else 1) < 30)) = true := by rfl)
    (hline : (apos.endLine == cpos.line) = true := by rfl) (hs : starEach [e] X.env = (false, eval e X.env) :: starEach [] X.env := by rfl) (hplain : (backTo cpos (starEach [] X.env)).any (·.1) = false := by rfl) :
    DE C X W (.Call (.Attribute o "startswith" apos) [e] [] cpos) (bmE tyStr startswithF fo fas) :=
  d_bm hK PySem.F.plainAttrs_str PySem.F.slot_str_startswith PySem.F.type_str_startswith mt_startswith s_startswith ty_str ho ha hbase hfew hline hs hplain
end
end Dn
set_option Elab.async false
set_option linter.all false
set_option maxRecDepth 100000
set_option maxHeartbeats 2000000
namespace Dn
open PySem PySem.Spec PyProof.Rows L2
section
variable {C : Ctx} {X : Cx} {W : WX} {A : Addr} {bmB : List Value} {B newId initId : String} {x : Str} {p pos pos' : Pos}
/-- raise X(), an own class without own __init__, no arguments -/
theorem pmk_own0 (F : ExcBaseFacts B newId initId bmB) (q : PySem.W.excIn X.K A bmB newId = true) (gC : X.mg x = some (.ref A)) (kC : PySem.W.keepIn X.K (.ref A) = true) (r : Raises X (.ref A)) (hg : Gl X x)
    (hdb : (x == ("__debug__" : Str)) = false := by decide) : PMk X (.Call (.Name x p) [] [] pos) (fun _ H Q => Q (.ref A) none H) := by
  intro pins s σ H Q I h
  refine wpAny_Call_Name_kw (ld_glob I hg gC ?_ hdb)
  refine PySem.W.callWith_K0 I.kIn kC ?_
  obtain ⟨_, _, _, _, _, _, _, _, _, _, _, _, _, _, _, _, _, hObj, hSpace, noInit, hTail⟩ := exc_obj I.kIn q
  refine wpAny_call_exc_subT F hTail hObj hSpace noInit (fun h' e hm => ?_) (by show 0 ≤ sizeLine; exact Nat.zero_le _)
  exact mk_of I hm r h (I.hok.gone hm.new)
/-- what is known of an own error's class -/
structure ExcF (K : PySem.W.Frag) (A : Addr) : Prop where
  q : PySem.W.excIn K A [.type "ValueError", .type "Exception", .type "BaseException", .type "object"] "ValueError.__new__" = true
  keep : PySem.W.keepIn K (.ref A) = true
  sub : PySem.W.subIn K (.ref A) (.type "BaseException") = some true
  ty : PySem.W.typeIn K (.ref A) = some (.type "type")
def raiseS (i : Nat) : DS0 := fun r O => .exc ⟨i, []⟩ r O
theorem s_raise0 (i : Nat) (hc : X.calm = true) (tk : Takes X W) (hK : X.K = C.K) (he : C.ec i = some A) (F : ExcF C.K A) (gC : X.mg x = some (.ref A)) (hg : Gl X x := by rfl)
    (hdb : (x == ("__debug__" : Str)) = false := by decide) : DS C X W (.Raise (some (.Call (.Name x p) [] [] pos)) none pos') (raiseS i) :=
  ⟨_, ps_raise hc tk (pmk_own0 PySem.F.excBase_ValueError (hK ▸ F.q) gC (hK ▸ F.keep) (raises_own (hK ▸ F.sub) (hK ▸ F.ty)) hg hdb), fun g σ H r O R S E h => by
    exact h _ _ _ _ _ (Ext.refl R) R S ⟨A, he, rfl, .inl ⟨rfl, rfl⟩⟩⟩
theorem PSs.imp {st : List Stmt} {t t' : TS} (h : PSs X st t) (i : ∀ E σ H, t' E σ H → t E σ H) : PSs X st t' := ⟨fun pins s σ H D I q => h.run pins s σ H D I (i D σ H q)⟩
/-- the least that a row of statements asks -/
def tOf (C : Ctx) (W : WX) (f : DS0) : TS := fun E σ H => ∃ g r O, RepO C g H O ∧ RepS C g σ r ∧ PostS C W g H (f r O) E
theorem pss_of {st : List Stmt} {f : DS0} (h : DSs C X W st f) : PSs X st (tOf C W f) :=
  let ⟨_, p, s⟩ := h.ex
  PSs.imp p fun E σ H ⟨g, r, O, R, S, q⟩ => s g σ H r O R S E q
abbrev noW : WX := fun _ _ _ _ => False
/-- try: .. except X: .. (no error leaves the clause) -/
def tryS (i : Nat) (f h : DS0) : DS0 := fun r O => match f r O with
  | .exc e r1 O1 => if e.cls = i then (match h r1 O1 with | .exc _ _ _ => .bad | y => y) else .exc e r1 O1
  | y => y
theorem s_try (i : Nat) {c : Value} {np : Pos} {b₀ : Stmt} {body suite : List Stmt} {f h : DS0} (hs : X.stack = X.env :: X.outer) (hf : X.env.frame = some X.env.locals) (hK : X.K = C.K) (hc : Names X x c) (tk : Takes X W)
    (hm : ∀ j A', C.ec j = some A' → PySem.W.exmOne C.K (.ref A') c = some (decide (j = i)))
    (hb : ∀ (W' : WX) (pn : List (Addr × Obj)) (xe : Value → Shared → Prop), Takes (X.tr pn xe) W' → PassesOwn (model X.prog X.w) X.A X.env xe → DSs C (X.tr pn xe) W' body f)
    (hsu : ∀ (a : Addr) (pn : List (Addr × Obj)), DSs C (X.suite a pn) noW (b₀ :: suite) h) :
    DS C X W (.Try body [.ExceptHandler (some (.Name x np)) none (b₀ :: suite) pos'] [] [] pos) (tryS i f h) :=
  ⟨_, ps_try_only (tb := fun W' => tOf C W' f) (ts := fun _ _ _ => tOf C noW h) (Wout := W) hs hf hc tk (fun W' pn xe t p => pss_of (hb W' pn xe t p)) (fun a oe cls d pn _ _ => pss_of (hsu a _)), fun g σ H r O R S E q => by
    refine ⟨g, r, O, R, S, ?_⟩
    unfold tryS at q
    cases z : f r O with
    | nx r1 O1 => rw [z] at q; exact q
    | ret d O1 => rw [z] at q; exact q
    | bk r1 O1 => rw [z] at q; exact q
    | ct r1 O1 => rw [z] at q; exact q
    | bad => rw [z] at q; exact q
    | exc e r1 O1 =>
      rw [z] at q
      intro cv dx σ' g' H' ex R' S' er
      obtain ⟨A', h1, rfl, h3⟩ := er
      refine ⟨decide (e.cls = i), by rw [hK]; exact hm _ _ h1, fun hb a _ => ?_, fun hb => ?_⟩
      · simp only [decide_eq_true_eq] at hb
        dsimp only at q
        rw [if_pos hb] at q
        refine ⟨g', r1, O1, R', S', ?_⟩
        cases y : h r1 O1 with
        | exc _ _ _ => rw [y] at q; exact q.elim
        | nx _ _ => rw [y] at q; exact PostS.shift (x := .nx _ _) ex q
        | ret _ _ => rw [y] at q; exact PostS.shift (x := .ret _ _) ex q
        | bk _ _ => rw [y] at q; exact PostS.shift (x := .bk _ _) ex q
        | ct _ _ => rw [y] at q; exact PostS.shift (x := .ct _ _) ex q
        | bad => rw [y] at q; exact q
      · simp only [decide_eq_false_iff_not] at hb
        dsimp only at q
        rw [if_neg hb] at q
        exact q _ _ _ _ _ ex R' S' ⟨A', h1, rfl, h3⟩⟩
end
end Dn
set_option Elab.async false
set_option linter.all false
set_option maxRecDepth 100000
set_option maxHeartbeats 2000000
namespace Dn
open PySem PySem.Spec PyProof.Rows L2
section
variable {C : Ctx} {X : Cx} {W : WX} {o e f : Expr} {fo : DE0} {fas : Rho → Sto → Res (List D)} {apos cpos pos : Pos}
/-! ### {}, d.get(k, x) -/
def dic0E : DE0 := fun _ O => .ok (.ob O.length) (O ++ [.dic []])
theorem d_dict0 : DE C X W (.Dict [] [] pos) dic0E :=
  ⟨_, pe_dnewK, fun g σ H r O R S Q h p hp => by
    have hk : ∀ a o, H a = some o → upd H p (.dK []) a = some o := fun a o e => by rw [upd_ne (ne_of_none e hp)]; exact e
    refine h _ (g.add p) _ (Ext.add R hp hk) (R.add hp hk ⟨[], upd_same, by simp [ShrK]⟩) ?_
    show Shr _ _ (.ob O.length) _
    simp only [Shr]
    rw [← R.n, G.add_at]
    exact ⟨rfl, Nat.lt_succ_self _⟩⟩
def get2D (d k x : D) (O : Sto) : ER := match dicOf d O, keyD k with
  | some (_, kvs), some k => .ok ((getK kvs k).getD x) O
  | _, _ => .bad
def getE2 (fo fa fb : DE0) : DE0 := fun r O => (fo r O).bind fun d O1 => if tyDic d O1 then (fa r O1).bind fun k O2 => (fb r O2).bind fun x O3 => get2D d k x O3 else .bad
theorem e_get2 {fa fb : DE0} (hu : X.A.units + 1 < cLine) (ho : DE C X W o fo) (ha : DE C X W e fa) (hb : DE C X W f fb) (m : M2 X o "get" apos e f cpos := by exact ⟨rfl, rfl, rfl, rfl⟩) :
    DE C X W (.Call (.Attribute o "get" apos) [e, f] [] cpos) (getE2 fo fa fb) :=
  let ⟨_, po, so⟩ := ho.ex; let ⟨_, pa, sa⟩ := ha.ex; let ⟨_, pb, sb⟩ := hb.ex
  ⟨_, pe_dget2 hu po pa pb m, fun g σ H r O R S Q h => so.seq R S h fun d O1 v g1 H1 e1 R1 S1 s1 h1 => by
    split at h1
    · rename_i hy
      unfold tyDic at hy
      cases q : dicOf d O1 with
      | none => rw [q] at hy; cases hy
      | some lk =>
        obtain ⟨l, kvs⟩ := lk
        obtain ⟨rfl, _, _, ws, h2, _⟩ := dicOf_of R1 s1 q
        refine ⟨_, rfl, .inl ⟨ws, .inl h2⟩, sa.seq R1 S1 h1 fun k O2 kv g2 H2 e2 R2 S2 s2 h3 => sb.seq R2 S2 h3 fun x O3 xv g3 H3 e3 R3 S3 s3 h4 => ?_⟩
        have h4 : Post C W σ g3 H3 (get2D d k x O3) Q := h4
        unfold get2D at h4
        split at h4
        · rename_i l' kvs' k' eq1 eq2
          have sd := (s1.mono e2.le).mono e3.le
          obtain ⟨hv, _, _, ws', h5, h6⟩ := dicOf_of R3 sd eq1
          have hkk := keyD_of s2 eq2
          subst hkk
          obtain ⟨a1, a2⟩ := shrK_get (k := k') h6
          cases z : getK kvs' k' with
          | some y =>
            obtain ⟨u, b1, b2⟩ := a1 y z
            rw [z] at h4
            refine ⟨some u, ?_, Post.fin R3 b2 h4⟩
            rw [← b1]
            rw [show g1.θ l = g3.θ l' from by injection hv]
            exact DGet.k h5
          | none =>
            rw [z] at h4
            refine ⟨none, ?_, Post.fin R3 (s3) h4⟩
            rw [← a2 z]
            rw [show g1.θ l = g3.θ l' from by injection hv]
            exact DGet.k h5
        · exact h4.elim
    · exact h1.elim⟩
def getE1 (fo fa : DE0) : DE0 := fun r O => (fo r O).bind fun d O1 => if tyDic d O1 then (fa r O1).bind fun k O2 => get2D d k .non O2 else .bad
theorem e_get1 {fa : DE0} (hu : X.A.units + 1 < cLine) (ho : DE C X W o fo) (ha : DE C X W e fa) (m : M1 X o "get" apos e cpos := by exact ⟨rfl, rfl, rfl, rfl⟩) :
    DE C X W (.Call (.Attribute o "get" apos) [e] [] cpos) (getE1 fo fa) :=
  let ⟨_, po, so⟩ := ho.ex; let ⟨_, pa, sa⟩ := ha.ex
  ⟨_, pe_dget1 hu po pa m, fun g σ H r O R S Q h => so.seq R S h fun d O1 v g1 H1 e1 R1 S1 s1 h1 => by
    split at h1
    · rename_i hy
      unfold tyDic at hy
      cases q : dicOf d O1 with
      | none => rw [q] at hy; cases hy
      | some lk =>
        obtain ⟨l, kvs⟩ := lk
        obtain ⟨rfl, _, _, ws, h2, _⟩ := dicOf_of R1 s1 q
        refine ⟨_, rfl, .inl ⟨ws, .inl h2⟩, sa.seq R1 S1 h1 fun k O2 kv g2 H2 e2 R2 S2 s2 h4 => ?_⟩
        have h4 : Post C W σ g2 H2 (get2D d k .non O2) Q := h4
        unfold get2D at h4
        split at h4
        · rename_i l' kvs' k' eq1 eq2
          have sd := s1.mono e2.le
          obtain ⟨hv, _, _, ws', h5, h6⟩ := dicOf_of R2 sd eq1
          have hkk := keyD_of s2 eq2
          subst hkk
          obtain ⟨a1, a2⟩ := shrK_get (k := k') h6
          cases z : getK kvs' k' with
          | some y =>
            obtain ⟨u, b1, b2⟩ := a1 y z
            rw [z] at h4
            refine ⟨some u, ?_, Post.fin R2 b2 h4⟩
            rw [← b1]
            rw [show g1.θ l = g2.θ l' from by injection hv]
            exact DGet.k h5
          | none =>
            rw [z] at h4
            refine ⟨none, ?_, Post.fin R2 rfl h4⟩
            rw [← a2 z]
            rw [show g1.θ l = g2.θ l' from by injection hv]
            exact DGet.k h5
        · exact h4.elim
    · exact h1.elim⟩
/-- does a clause name an error's class -/
theorem exm_mk {K : PySem.W.Frag} {E S : Addr} {b : Bool} (hS : PySem.W.subIn K (.ref S) (.type "BaseException") = some true) (hc : PySem.W.isClsIn K S = true) (ht : PySem.W.typeIn K (.ref S) = some (.type "type")) (hb : PySem.W.subIn K (.ref E) (.ref S) = some b) :
    PySem.W.exmOne K (.ref E) (.ref S) = some b := by
  have hc' : (PySem.W.clsIn K S).isSome = true := hc
  have a : (PySem.W.subIn K (.ref S) (.type "BaseException") == some true) = true := by rw [hS]; rfl
  have c : ((PySem.W.clsIn K S).isSome && PySem.W.typeIn K (.ref S) == some (.type "type")) = true := by rw [hc', ht]; rfl
  unfold PySem.W.exmOne
  rw [if_pos a]
  exact (if_pos c).trans hb
end
end Dn
set_option Elab.async false
set_option linter.all false
set_option maxRecDepth 100000
set_option maxHeartbeats 2000000
namespace Dn
open PySem PySem.Spec PyProof.Rows L2
section
variable {C : Ctx} {X : Cx} {W : WX} {e : Expr} {es : List Expr} {fas : Rho → Sto → Res (List D)} {p pos : Pos}
/-! ### max, min of two whole numbers; str of one -/
def max2F : List D → Sto → ER := fun ds O => match ds with | [.int i, .int j] => .ok (.int (if j > i then j else i)) O | _ => .bad
def min2F : List D → Sto → ER := fun ds O => match ds with | [.int i, .int j] => .ok (.int (if j < i then j else i)) O | _ => .bad
theorem shrL_ints2 {g : G} {i j : Int} {vs : List V} (s : ShrL C.K g [.int i, .int j] vs) : vs = [.int i, .int j] := by
  simp only [ShrL] at s
  obtain ⟨v, q, rfl, h1, w, q2, rfl, h2, rfl⟩ := s
  cases h1; cases h2; rfl
theorem s_max2 : SatC C W (fun xs H Q => ∃ i j, xs = [.int i, .int j] ∧ Q (.int (if j > i then j else i)) H) max2F := by
  intro g H O R ds vs s σ Q h
  unfold max2F at h
  split at h
  · have := shrL_ints2 s
    subst this
    exact ⟨_, _, rfl, Post.fin R rfl h⟩
  · exact h.elim
theorem s_min2 : SatC C W (fun xs H Q => ∃ i j, xs = [.int i, .int j] ∧ Q (.int (if j < i then j else i)) H) min2F := by
  intro g H O R ds vs s σ Q h
  unfold min2F at h
  split at h
  · have := shrL_ints2 s
    subst this
    exact ⟨_, _, rfl, Post.fin R rfl h⟩
  · exact h.elim
theorem e_max2 (hK : X.K = C.K) (hc : X.calm = true) (hm : X.mg "max" = none) (hg : Gl X "max") (ha : DA C X W (e :: es) fas)
    (he : starEach (e :: es) X.env = (false, eval e X.env) :: starEach es X.env := by rfl) (hpl : (backTo pos (starEach es X.env)).any (·.1) = false := by rfl) : DE C X W (.Call (.Name "max" p) (e :: es) [] pos) (callE max2F fas) :=
  d_callB (call_max2 hc) s_max2 hg hm (by decide +kernel) ha (by decide) (by decide) he hpl
theorem e_min2 (hK : X.K = C.K) (hc : X.calm = true) (hm : X.mg "min" = none) (hg : Gl X "min") (ha : DA C X W (e :: es) fas)
    (he : starEach (e :: es) X.env = (false, eval e X.env) :: starEach es X.env := by rfl) (hpl : (backTo pos (starEach es X.env)).any (·.1) = false := by rfl) : DE C X W (.Call (.Name "min" p) (e :: es) [] pos) (callE min2F fas) :=
  d_callB (call_min2 hc) s_min2 hg hm (by decide +kernel) ha (by decide) (by decide) he hpl
/-- the text of a whole number -/
def numT (i : Int) : List Nat := (toString i).toList.map Char.toNat
theorem mkS_num (i : Int) : Str.ofString (toString i) = mkS (numT i) := TL.ext_tl (TL.tl_ofString _)
def strF : List D → Sto → ER := fun ds O => match ds with | [.int i] => if i.natAbs.log2 < 1920 then .ok (.str (numT i)) O else .bad | _ => .bad
theorem s_str : SatC C W (fun xs H Q => ∃ i : Int, xs = [.int i] ∧ i.natAbs.log2 < 1920 ∧ Q (.str (toString i)) H) strF := by
  intro g H O R ds vs s σ Q h
  unfold strF at h
  split at h
  · rename_i i
    obtain ⟨v, rfl, sv⟩ := shrL_one s
    cases sv
    split at h
    · rename_i hz
      refine ⟨i, rfl, hz, Post.fin R ?_ h⟩
      show V.str (Str.ofString (toString i)) = .str (mkS (numT i))
      rw [mkS_num]
    · exact h.elim
  · exact h.elim
theorem e_str (hm : X.mg "str" = none) (hg : Gl X "str") (ha : DA C X W (e :: es) fas)
    (he : starEach (e :: es) X.env = (false, eval e X.env) :: starEach es X.env := by rfl) (hpl : (backTo pos (starEach es X.env)).any (·.1) = false := by rfl) : DE C X W (.Call (.Name "str" p) (e :: es) [] pos) (callE strF fas) :=
  d_callTy (call_str_int (X := X)) s_str hg hm (by decide +kernel) ha (by decide) (by decide) he hpl
end
end Dn
set_option Elab.async false
set_option linter.all false
set_option maxRecDepth 100000
set_option maxHeartbeats 2000000
namespace Dn
open PySem PySem.Spec PyProof.Rows L2
section
variable {C : Ctx} {X : Cx} {W : WX} {e v1 v2 : Expr} {es rest : List Expr} {f : DE0} {pos : Pos}
/-! ### f-strings of texts and whole numbers -/
def fmtD (d : D) (O : Sto) : ER := match d with
  | .str x => if x.length ≤ sizeLine then .ok (.str x) O else .bad
  | .int i => if i.natAbs.log2 < 1920 then .ok (.str (numT i)) O else .bad
  | _ => .bad
def fmtE (f : DE0) : DE0 := fun r O => (f r O).bind fun d O1 => fmtD d O1
theorem j_val (h : DE C X W e f) : DE C X W (.FormattedValue e (-1) none pos) (fmtE f) :=
  let ⟨_, p, s⟩ := h.ex
  ⟨_, pe_fmt p, fun g σ H r O R S Q q => s.seq R S q fun d O1 v g1 H1 e1 R1 S1 s1 h1 => by
    have h1 : Post C W σ g1 H1 (fmtD d O1) Q := h1
    unfold fmtD at h1
    split at h1
    · rename_i x
      cases s1
      split at h1
      · rename_i hz
        exact .inl ⟨_, rfl, by simpa [Str.length] using hz, Post.fin R1 rfl h1⟩
      · exact h1.elim
    · cases s1
      split at h1
      · rename_i hz
        refine .inr ⟨_, rfl, hz, Post.fin R1 ?_ h1⟩
        exact congrArg V.str (mkS_num _)
      · exact h1.elim
    · exact h1.elim⟩
abbrev DJ0 := List Nat → Rho → Sto → ER
def nilJ : DJ0 := fun acc _ O => .ok (.str acc) O
def consJ (f : DE0) (j : DJ0) : DJ0 := fun acc r O => (f r O).bind fun d O1 => match d with
  | .str y => if acc.length + y.length ≤ sizeLine then j (acc ++ y) r O1 else .bad
  | _ => .bad
def joinE (j : DJ0) : DE0 := fun r O => j [] r O
structure DJ (C : Ctx) (X : Cx) (W : WX) (es : List Expr) (j : DJ0) : Prop where
  ex : ∃ ts, PJ X es ts ∧ ∀ acc g σ H r O, RepO C g H O → RepS C g σ r → ∀ Q : VK, Post C W σ g H (j acc r O) Q → tJs ts (mkS acc) σ H fun out H1 => Q (.str out) H1
theorem j_nil : DJ C X W [] nilJ := ⟨[], .nil, fun acc g σ H r O R S Q h => h _ g H (Ext.refl R) R rfl⟩
theorem mkS_app (x y : List Nat) : mkS x ++ mkS y = mkS (x ++ y) := TL.ext_tl (by rw [TL.tl_append])
theorem j_cons {j : DJ0} (h : DE C X W e f) (hr : DJ C X W es j) : DJ C X W (e :: es) (consJ f j) :=
  let ⟨_, p, s⟩ := h.ex; let ⟨_, q, u⟩ := hr.ex
  ⟨_, .cons p q, fun acc g σ H r O R S Q h => s.seq R S h fun d O1 v g1 H1 e1 R1 S1 s1 h1 => by
    split at h1
    · rename_i y
      cases s1
      split at h1
      · rename_i hz
        refine ⟨mkS y, rfl, ?_, ?_⟩
        · rw [mkS_app]
          simpa [mkS, Str.length] using hz
        · rw [mkS_app]
          exact u (acc ++ y) g1 σ H1 r O1 R1 S1 Q h1
      · exact h1.elim
    · exact h1.elim⟩
theorem d_join {j : DJ0} (h : DJ C X W (v1 :: v2 :: rest) j) : DE C X W (.JoinedStr (v1 :: v2 :: rest) pos) (joinE j) :=
  let ⟨_, p, s⟩ := h.ex
  ⟨_, pe_joined p, fun g σ H r O R S Q h => s [] g σ H r O R S Q h⟩
theorem d_join1 (h : DE C X W e f) : DE C X W (.JoinedStr [e] pos) f :=
  let ⟨_, p, s⟩ := h.ex
  ⟨_, pe_joined1 p, s⟩
end
end Dn
set_option Elab.async false
set_option linter.all false
set_option maxRecDepth 100000
set_option maxHeartbeats 2000000
namespace Dn
open PySem PySem.Spec PyProof.Rows L2
section
variable {C : Ctx} {X : Cx} {W : WX} {o e f : Expr} {es : List Expr} {fo : DE0} {fas : Rho → Sto → Res (List D)} {apos cpos p pos : Pos}
theorem len_mkS (z : List Nat) : (mkS z).length = z.length := by simp [mkS, Str.length]
/-! ### places of a text in another -/
def findL (x y : List Nat) : Option Nat := (List.range (x.length + 1)).find? fun i => decide (i + y.length ≤ x.length) && ((x.drop i).take y.length == y)
def asI (k : Option Nat) : Int := match k with | some k => (k : Int) | none => -1
theorem at_L (a b : List Nat) (i : Nat) : StrLaws.At (mkS a) (mkS b) (mkS a).length i ↔ (decide (i + b.length ≤ a.length) && ((a.drop i).take b.length == b)) = true := by
  unfold StrLaws.At
  rw [StrLaws.subAt_eq, len_mkS, len_mkS, Bool.and_eq_true, decide_eq_true_eq]
theorem find_L (a b : List Nat) : Txt.find (mkS a) (mkS b) = asI (findL a b) := by
  unfold Txt.find
  rcases StrLaws.occ_head (mkS a) (mkS b) 1 (Nat.le_refl 1) with ⟨e, hn⟩ | ⟨i, r, e, hi, hn⟩
  · rw [e]
    have : findL a b = none := by
      unfold findL
      rw [List.find?_eq_none]
      intro i _ h
      exact hn i ((at_L a b i).mpr h)
    rw [this]; rfl
  · rw [e]
    have : findL a b = some i := by
      unfold findL
      rw [List.find?_range_eq_some]
      refine ⟨(at_L a b i).mp hi, ?_, fun j hj => ?_⟩
      · have h1 := hi.1
        rw [len_mkS, len_mkS] at h1
        exact List.mem_range.mpr (by omega)
      · rw [Bool.not_eq_true', ← Bool.not_eq_true]
        exact fun z => hn j hj ((at_L a b j).mpr z)
    rw [this]; rfl
def find1F : D → List D → Sto → ER := fun d ds O => match d, ds with
  | .str a, [.str b] => .ok (.int (asI (findL a b))) O
  | _, _ => .bad
theorem s_find1 : SatM C W (fun x xs H Q => ∃ a b, x = .str a ∧ xs = [.str b] ∧ Q (.int (Txt.find a b)) H) find1F := by
  intro g H O R d ds v vs s sl σ Q h
  unfold find1F at h
  split at h
  · rename_i a b
    cases s
    obtain ⟨w, rfl, sy⟩ := shrL_one sl
    cases sy
    refine ⟨mkS a, mkS b, rfl, rfl, ?_⟩
    rw [find_L]
    exact Post.fin R rfl h
  · exact h.elim
/-- .find(c, i), of one sign -/
def fromL (n : Nat) (i : Int) : Nat := (max 0 (if i < 0 then i + n else i)).toNat
def find2L (x : List Nat) (c : Nat) (i : Int) : Option Nat := (List.range x.length).find? fun k => decide (fromL x.length i ≤ k) && (x.getD k 0 == c)
theorem find2_L (x : List Nat) (c : Nat) (i : Int) : Txt.find3 (mkS x) ⟨#[c]⟩ i = asI (find2L x c i) := by
  have hg : ∀ k, (mkS x).cps.getD k 0 = x.getD k 0 := fun k => by
    simp [mkS, Array.getD_eq_getD_getElem?, List.getD_eq_getElem?_getD]
  rcases StrLaws.find3_spec (mkS x) c i with ⟨e, hn⟩ | ⟨k, e, h1, h2, h3, h4⟩
  · rw [e]
    have : find2L x c i = none := by
      unfold find2L
      rw [List.find?_eq_none]
      intro k hk h
      rw [Bool.and_eq_true, decide_eq_true_eq, beq_iff_eq] at h
      refine hn k ?_ ?_ ?_
      · rw [len_mkS]; exact h.1
      · rw [len_mkS]; exact List.mem_range.mp hk
      · rw [hg]; exact h.2
    rw [this]; rfl
  · rw [e]
    rw [len_mkS] at h1 h2
    have : find2L x c i = some k := by
      unfold find2L
      rw [List.find?_range_eq_some]
      refine ⟨?_, List.mem_range.mpr h2, fun j hj => ?_⟩
      · rw [Bool.and_eq_true, decide_eq_true_eq, beq_iff_eq]
        exact ⟨h1, by rw [← hg]; exact h3⟩
      · rw [Bool.not_eq_true', ← Bool.not_eq_true, Bool.and_eq_true, decide_eq_true_eq, beq_iff_eq]
        rintro ⟨z1, z2⟩
        exact h4 j (by rw [len_mkS]; exact z1) hj (by rw [hg]; exact z2)
    rw [this]; rfl
def find2F : D → List D → Sto → ER := fun d ds O => match d, ds with
  | .str a, [.str [c], .int i] => .ok (.int (asI (find2L a c i))) O
  | _, _ => .bad
theorem s_find2 : SatM C W (fun x xs H Q => ∃ (a b : Str) (i : Int), x = .str a ∧ xs = [.str b, .int i] ∧ Q (.int (Txt.find3 a b i)) H) find2F := by
  intro g H O R d ds v vs s sl σ Q h
  unfold find2F at h
  split at h
  · rename_i a c i
    cases s
    obtain ⟨v, w, rfl, sy, sz⟩ := shrL_two sl
    cases sy; cases sz
    refine ⟨mkS a, ⟨#[c]⟩, i, rfl, rfl, ?_⟩
    rw [find2_L]
    exact Post.fin R rfl h
  · exact h.elim
def endswithF : D → List D → Sto → ER := fun d ds O => match d, ds with
  | .str a, [.str b] => .ok (.bl (decide (b.length ≤ a.length) && ((a.drop (a.length - b.length)).take b.length == b))) O
  | _, _ => .bad
theorem s_endswith : SatM C W (fun x xs H Q => ∃ a b, x = .str a ∧ xs = [.str b] ∧ Q (.bl (Txt.endswith a b)) H) endswithF := by
  intro g H O R d ds v vs s sl σ Q h
  unfold endswithF at h
  split at h
  · rename_i a b
    cases s
    obtain ⟨w, rfl, sy⟩ := shrL_one sl
    cases sy
    refine ⟨mkS a, mkS b, rfl, rfl, ?_⟩
    have e : Txt.endswith (mkS a) (mkS b) = (decide (b.length ≤ a.length) && ((a.drop (a.length - b.length)).take b.length == b)) := by
      unfold Txt.endswith
      rw [StrLaws.subAt_eq, len_mkS, len_mkS, Nat.zero_add]
    rw [e]
    exact Post.fin R rfl h
  · exact h.elim
/-- s.partition(t) -/
def parD (a b : List Nat) : List D := match TL.par b [] a with | some (p, q) => [.str p, .str b, .str q] | none => [.str a, .str [], .str []]
def partition1F : D → List D → Sto → ER := fun d ds O => match d, ds with
  | .str a, [.str b] => if decide (b ≠ []) && decide (a.length ≤ sizeLine) then .ok (.tup (parD a b)) O else .bad
  | _, _ => .bad
theorem s_partition1 : SatM C W (fun x xs H Q => ∃ a b, x = .str a ∧ xs = [.str b] ∧ (b.length == 0) = false ∧ a.length ≤ sizeLine ∧ ∀ p, H p = none → Q (.ref p) (upd H p (.tup [.str (Txt.partition a b).1, .str (Txt.partition a b).2.1, .str (Txt.partition a b).2.2]))) partition1F := by
  intro g H O R d ds v vs s sl σ Q h
  unfold partition1F at h
  split at h
  · rename_i a b
    cases s
    obtain ⟨w, rfl, sy⟩ := shrL_one sl
    cases sy
    split at h
    · rename_i hc
      simp only [Bool.and_eq_true, decide_eq_true_eq] at hc
      refine ⟨mkS a, mkS b, rfl, rfl, ?_, by rw [len_mkS]; exact hc.2, fun p hp => new_tup R ?_ h hp⟩
      · rw [len_mkS]
        cases b with
        | nil => exact absurd rfl hc.1
        | cons => rfl
      · rw [TL.partition_par (mkS a) (mkS b) hc.1]
        have e1 : TL.tl (mkS a) = a := rfl
        have e2 : TL.tl (mkS b) = b := rfl
        rw [e1, e2]
        unfold parD
        cases TL.par b [] a with
        | none => exact strs_shrL [a, [], []]
        | some pq => exact strs_shrL [pq.1, b, pq.2]
    · exact h.elim
  · exact h.elim
/-- .ljust, .rjust -/
theorem tl_padded (x : Str) (m n c : Nat) : TL.tl (Builtin.Str.padded x m n c) = List.replicate m c ++ TL.tl x ++ List.replicate n c := by
  unfold Builtin.Str.padded TL.tl
  simp
def ljust1F : D → List D → Sto → ER := fun d ds O => match d, ds with
  | .str a, [.int i] => if PadOk i then .ok (.str (a ++ List.replicate (i.toNat - a.length) 32)) O else .bad
  | _, _ => .bad
def rjust1F : D → List D → Sto → ER := fun d ds O => match d, ds with
  | .str a, [.int i] => if PadOk i then .ok (.str (List.replicate (i.toNat - a.length) 32 ++ a)) O else .bad
  | _, _ => .bad
theorem ljust_L (a : List Nat) (i : Int) : Txt.ljust (mkS a) i = mkS (a ++ List.replicate (i.toNat - a.length) 32) := by
  unfold Txt.ljust
  rw [len_mkS]
  split
  · have : i.toNat - a.length = 0 := by omega
    rw [this]; simp
  · refine TL.ext_tl ?_
    rw [tl_padded]; simp [TL.tl_mk, tl_mkS]
theorem rjust_L (a : List Nat) (i : Int) : Txt.rjust (mkS a) i = mkS (List.replicate (i.toNat - a.length) 32 ++ a) := by
  unfold Txt.rjust
  rw [len_mkS]
  split
  · have : i.toNat - a.length = 0 := by omega
    rw [this]; simp
  · refine TL.ext_tl ?_
    rw [tl_padded]; simp [TL.tl_mk, tl_mkS]
theorem s_ljust1 : SatM C W (fun x xs H Q => ∃ (a : Str) (i : Int), x = .str a ∧ xs = [.int i] ∧ PadOk i = true ∧ Q (.str (Txt.ljust a i)) H) ljust1F := by
  intro g H O R d ds v vs s sl σ Q h
  unfold ljust1F at h
  split at h
  · rename_i a i
    cases s
    obtain ⟨w, rfl, sy⟩ := shrL_one sl
    cases sy
    split at h
    · rename_i hc
      refine ⟨mkS a, i, rfl, rfl, hc, ?_⟩
      rw [ljust_L]
      exact Post.fin R rfl h
    · exact h.elim
  · exact h.elim
theorem s_rjust1 : SatM C W (fun x xs H Q => ∃ (a : Str) (i : Int), x = .str a ∧ xs = [.int i] ∧ PadOk i = true ∧ Q (.str (Txt.rjust a i)) H) rjust1F := by
  intro g H O R d ds v vs s sl σ Q h
  unfold rjust1F at h
  split at h
  · rename_i a i
    cases s
    obtain ⟨w, rfl, sy⟩ := shrL_one sl
    cases sy
    split at h
    · rename_i hc
      refine ⟨mkS a, i, rfl, rfl, hc, ?_⟩
      rw [rjust_L]
      exact Post.fin R rfl h
    · exact h.elim
  · exact h.elim
/-- int(s) -/
def intF : List D → Sto → ER := fun ds O => match ds with
  | [.str a] => if a.length ≤ 640 then (match PySem.intText? (mkS a) with | some n => .ok (.int n) O | none => .bad) else .bad
  | _ => .bad
theorem s_int : SatC C W (fun xs H Q => ∃ a n, xs = [.str a] ∧ PySem.intText? a = some n ∧ a.length ≤ 640 ∧ Q (.int n) H) intF := by
  intro g H O R ds vs s σ Q h
  unfold intF at h
  split at h
  · rename_i a
    obtain ⟨v, rfl, sv⟩ := shrL_one s
    cases sv
    split at h
    · rename_i hl
      split at h
      · rename_i n en
        exact ⟨mkS a, n, rfl, en, by rw [len_mkS]; exact hl, Post.fin R rfl h⟩
      · exact h.elim
    · exact h.elim
  · exact h.elim
theorem e_int (hm : X.mg "int" = none) (hg : Gl X "int") (ha : DA C X W (e :: es) fas)
    (he : starEach (e :: es) X.env = (false, eval e X.env) :: starEach es X.env := by rfl) (hpl : (backTo pos (starEach es X.env)).any (·.1) = false := by rfl) : DE C X W (.Call (.Name "int" p) (e :: es) [] pos) (callE intF fas) :=
  d_callTy (call_int_str (X := X)) s_int hg hm (by decide +kernel) ha (by decide) (by decide) he hpl
section
variable {fo : DE0}
theorem e_find1 (hK : X.K = C.K) (ho : DE C X W o fo) (ha : DA C X W [e] fas)
    (hbase : attributeBase o "find" X.env (eval o X.env) = eval o X.env := by rfl)
    (hfew : ((backTo cpos (starEach [e] X.env)).all (fun x => !x.1) && (backToKw cpos (keywordEach [] X.env)).all (fun x => x.1.isSome)
      && decide ([e].length + ([] : List Keyword).length + (if ([] : List Keyword).isEmpty then 0 else 1) < 30)) = true := by rfl)
    (hline : (apos.endLine == cpos.line) = true := by rfl) (hs : starEach [e] X.env = (false, eval e X.env) :: starEach [] X.env := by rfl) (hplain : (backTo cpos (starEach [] X.env)).any (·.1) = false := by rfl) :
    DE C X W (.Call (.Attribute o "find" apos) [e] [] cpos) (bmE tyStr find1F fo fas) :=
  d_bm hK PySem.F.plainAttrs_str PySem.F.slot_str_find PySem.F.type_str_find mt_find s_find1 ty_str ho ha hbase hfew hline hs hplain
theorem e_find2 (hK : X.K = C.K) (ho : DE C X W o fo) (ha : DA C X W [e, f] fas)
    (hbase : attributeBase o "find" X.env (eval o X.env) = eval o X.env := by rfl)
    (hfew : ((backTo cpos (starEach [e, f] X.env)).all (fun x => !x.1) && (backToKw cpos (keywordEach [] X.env)).all (fun x => x.1.isSome)
      && decide ([e, f].length + ([] : List Keyword).length + (if ([] : List Keyword).isEmpty then 0 else 1) < 30)) = true := by rfl)
    (hline : (apos.endLine == cpos.line) = true := by rfl) (hs : starEach [e, f] X.env = (false, eval e X.env) :: starEach [f] X.env := by rfl) (hplain : (backTo cpos (starEach [f] X.env)).any (·.1) = false := by rfl) :
    DE C X W (.Call (.Attribute o "find" apos) [e, f] [] cpos) (bmE tyStr find2F fo fas) :=
  d_bm hK PySem.F.plainAttrs_str PySem.F.slot_str_find PySem.F.type_str_find mt_find3 s_find2 ty_str ho ha hbase hfew hline hs hplain
theorem e_endswith (hK : X.K = C.K) (ho : DE C X W o fo) (ha : DA C X W [e] fas)
    (hbase : attributeBase o "endswith" X.env (eval o X.env) = eval o X.env := by rfl)
    (hfew : ((backTo cpos (starEach [e] X.env)).all (fun x => !x.1) && (backToKw cpos (keywordEach [] X.env)).all (fun x => x.1.isSome)
      && decide ([e].length + ([] : List Keyword).length + (if ([] : List Keyword).isEmpty then 0 else 1) < 30)) = true := by rfl)
    (hline : (apos.endLine == cpos.line) = true := by rfl) (hs : starEach [e] X.env = (false, eval e X.env) :: starEach [] X.env := by rfl) (hplain : (backTo cpos (starEach [] X.env)).any (·.1) = false := by rfl) :
    DE C X W (.Call (.Attribute o "endswith" apos) [e] [] cpos) (bmE tyStr endswithF fo fas) :=
  d_bm hK PySem.F.plainAttrs_str PySem.F.slot_str_endswith PySem.F.type_str_endswith mt_endswith s_endswith ty_str ho ha hbase hfew hline hs hplain
theorem e_partition1 (hK : X.K = C.K) (ho : DE C X W o fo) (ha : DA C X W [e] fas)
    (hbase : attributeBase o "partition" X.env (eval o X.env) = eval o X.env := by rfl)
    (hfew : ((backTo cpos (starEach [e] X.env)).all (fun x => !x.1) && (backToKw cpos (keywordEach [] X.env)).all (fun x => x.1.isSome)
      && decide ([e].length + ([] : List Keyword).length + (if ([] : List Keyword).isEmpty then 0 else 1) < 30)) = true := by rfl)
    (hline : (apos.endLine == cpos.line) = true := by rfl) (hs : starEach [e] X.env = (false, eval e X.env) :: starEach [] X.env := by rfl) (hplain : (backTo cpos (starEach [] X.env)).any (·.1) = false := by rfl) :
    DE C X W (.Call (.Attribute o "partition" apos) [e] [] cpos) (bmE tyStr partition1F fo fas) :=
  d_bm hK PySem.F.plainAttrs_str PySem.F.slot_str_partition PySem.F.type_str_partition mt_partition s_partition1 ty_str ho ha hbase hfew hline hs hplain
theorem e_ljust1 (hK : X.K = C.K) (ho : DE C X W o fo) (ha : DA C X W [e] fas)
    (hbase : attributeBase o "ljust" X.env (eval o X.env) = eval o X.env := by rfl)
    (hfew : ((backTo cpos (starEach [e] X.env)).all (fun x => !x.1) && (backToKw cpos (keywordEach [] X.env)).all (fun x => x.1.isSome)
      && decide ([e].length + ([] : List Keyword).length + (if ([] : List Keyword).isEmpty then 0 else 1) < 30)) = true := by rfl)
    (hline : (apos.endLine == cpos.line) = true := by rfl) (hs : starEach [e] X.env = (false, eval e X.env) :: starEach [] X.env := by rfl) (hplain : (backTo cpos (starEach [] X.env)).any (·.1) = false := by rfl) :
    DE C X W (.Call (.Attribute o "ljust" apos) [e] [] cpos) (bmE tyStr ljust1F fo fas) :=
  d_bm hK PySem.F.plainAttrs_str PySem.F.slot_str_ljust PySem.F.type_str_ljust mt_ljust s_ljust1 ty_str ho ha hbase hfew hline hs hplain
theorem e_rjust1 (hK : X.K = C.K) (ho : DE C X W o fo) (ha : DA C X W [e] fas)
    (hbase : attributeBase o "rjust" X.env (eval o X.env) = eval o X.env := by rfl)
    (hfew : ((backTo cpos (starEach [e] X.env)).all (fun x => !x.1) && (backToKw cpos (keywordEach [] X.env)).all (fun x => x.1.isSome)
      && decide ([e].length + ([] : List Keyword).length + (if ([] : List Keyword).isEmpty then 0 else 1) < 30)) = true := by rfl)
    (hline : (apos.endLine == cpos.line) = true := by rfl) (hs : starEach [e] X.env = (false, eval e X.env) :: starEach [] X.env := by rfl) (hplain : (backTo cpos (starEach [] X.env)).any (·.1) = false := by rfl) :
    DE C X W (.Call (.Attribute o "rjust" apos) [e] [] cpos) (bmE tyStr rjust1F fo fas) :=
  d_bm hK PySem.F.plainAttrs_str PySem.F.slot_str_rjust PySem.F.type_str_rjust mt_rjust s_rjust1 ty_str ho ha hbase hfew hline hs hplain
end
end
end Dn
set_option Elab.async false
set_option linter.all false
set_option maxRecDepth 100000
set_option maxHeartbeats 2000000
namespace Dn
open PySem PySem.Spec PyProof.Rows L2
section
variable {C : Ctx} {X : Cx} {W : WX} {o e f a b : Expr} {es : List Expr} {fo fa fb : DE0} {fas : Rho → Sto → Res (List D)} {apos cpos p pos : Pos}
/-! ### xs.pop(), xs.pop(0), xs.clear() -/
def pop0F : D → List D → Sto → ER := fun d ds O => match d, ds with
  | .ob l, [] => (match O[l]? with | some (.lst xs) => (match xs[xs.length - 1]? with | some y => .ok y (O.set l (.lst xs.dropLast)) | none => .bad) | _ => .bad)
  | _, _ => .bad
theorem shrL_dropLast {K : PySem.W.Frag} {g : G} {ds : List D} {vs : List V} (h : ShrL K g ds vs) : ShrL K g ds.dropLast vs.dropLast := by
  rw [List.dropLast_eq_take, List.dropLast_eq_take, shrL_len h]
  exact shrL_take _ h
theorem s_pop0 : SatM C W rPop pop0F := by
  intro g H O R d ds v vs s sl σ Q h
  unfold pop0F at h
  split at h
  · rename_i l
    simp only [Shr] at s
    obtain ⟨rfl, hl⟩ := s
    simp only [ShrL] at sl
    subst sl
    split at h
    · rename_i xs e
      split at h
      · rename_i y ey
        obtain ⟨ws, h1, h2⟩ := R.cell l _ e
        obtain ⟨w, hw, sw⟩ := shrL_get h2 ey
        refine ⟨_, ws, w, rfl, rfl, h1, by rw [shrL_len h2]; exact hw, ?_⟩
        exact h w g _ (Ext.set R hl) (R.set hl ⟨_, upd_same, shrL_dropLast h2⟩) sw
      · exact h.elim
    · exact h.elim
  · exact h.elim
def popAt0F : D → List D → Sto → ER := fun d ds O => match d, ds with
  | .ob l, [.int i] => if i = 0 then (match O[l]? with | some (.lst (y :: ys)) => .ok y (O.set l (.lst ys)) | _ => .bad) else .bad
  | _, _ => .bad
theorem s_popAt0 : SatM C W rPopAt popAt0F := by
  intro g H O R d ds v vs s sl σ Q h
  unfold popAt0F at h
  split at h
  · rename_i l i
    simp only [Shr] at s
    obtain ⟨rfl, hl⟩ := s
    obtain ⟨w, rfl, sy⟩ := shrL_one sl
    cases sy
    split at h
    · rename_i hi
      subst hi
      split at h
      · rename_i y ys e
        obtain ⟨ws, h1, h2⟩ := R.cell l _ e
        simp only [ShrL] at h2
        obtain ⟨w, r, rfl, sw, sr⟩ := h2
        refine ⟨_, w :: r, 0, 0, w, rfl, rfl, h1, by decide, by decide, ?_, rfl, ?_⟩
        · unfold seqIndex?; simp
        · exact h w g _ (Ext.set R hl) (R.set hl ⟨r, upd_same, sr⟩) sw
      · exact h.elim
    · exact h.elim
  · exact h.elim
def clearF : D → List D → Sto → ER := fun d ds O => match d, ds with
  | .ob l, [] => (match O[l]? with | some (.lst xs) => .ok .non (O.set l (.lst [])) | _ => .bad)
  | _, _ => .bad
theorem s_clear : SatM C W rClear clearF := by
  intro g H O R d ds v vs s sl σ Q h
  unfold clearF at h
  split at h
  · rename_i l
    simp only [Shr] at s
    obtain ⟨rfl, hl⟩ := s
    simp only [ShrL] at sl
    subst sl
    split at h
    · rename_i xs e
      obtain ⟨ws, h1, h2⟩ := R.cell l _ e
      exact ⟨_, ws, rfl, rfl, h1, h .non g _ (Ext.set R hl) (R.set hl ⟨[], upd_same, by simp [ShrL]⟩) rfl⟩
    · exact h.elim
  · exact h.elim
theorem e_pop0 (hK : X.K = C.K) (ho : DE C X W o fo)
    (hbase : attributeBase o "pop" X.env (eval o X.env) = eval o X.env := by rfl) (hline : (apos.endLine == cpos.line) = true := by rfl) :
    DE C X W (.Call (.Attribute o "pop" apos) [] [] cpos) (bmE tyLst pop0F fo nilA) :=
  d_bm0 hK PySem.F.plainAttrs_list PySem.F.slot_list_pop PySem.F.type_list_pop mt_pop s_pop0 ty_lst ho hbase hline
theorem e_clear (hK : X.K = C.K) (ho : DE C X W o fo)
    (hbase : attributeBase o "clear" X.env (eval o X.env) = eval o X.env := by rfl) (hline : (apos.endLine == cpos.line) = true := by rfl) :
    DE C X W (.Call (.Attribute o "clear" apos) [] [] cpos) (bmE tyLst clearF fo nilA) :=
  d_bm0 hK PySem.F.plainAttrs_list PySem.F.slot_list_clear PySem.F.type_list_clear mt_clear s_clear ty_lst ho hbase hline
theorem e_popAt0 (hK : X.K = C.K) (ho : DE C X W o fo) (ha : DA C X W [e] fas)
    (hbase : attributeBase o "pop" X.env (eval o X.env) = eval o X.env := by rfl)
    (hfew : ((backTo cpos (starEach [e] X.env)).all (fun x => !x.1) && (backToKw cpos (keywordEach [] X.env)).all (fun x => x.1.isSome)
      && decide ([e].length + ([] : List Keyword).length + (if ([] : List Keyword).isEmpty then 0 else 1) < 30)) = true := by rfl)
    (hline : (apos.endLine == cpos.line) = true := by rfl) (hs : starEach [e] X.env = (false, eval e X.env) :: starEach [] X.env := by rfl) (hplain : (backTo cpos (starEach [] X.env)).any (·.1) = false := by rfl) :
    DE C X W (.Call (.Attribute o "pop" apos) [e] [] cpos) (bmE tyLst popAt0F fo fas) :=
  d_bm hK PySem.F.plainAttrs_list PySem.F.slot_list_pop PySem.F.type_list_pop mt_popAt s_popAt0 ty_lst ho ha hbase hfew hline hs hplain
/-! ### d.pop(k) -/
def popD (d k : D) (O : Sto) : ER := match dicOf d O, keyD k with
  | some (l, kvs), some k => (match getK kvs k with | some v => .ok v (O.set l (.dic (delK kvs k))) | none => .bad)
  | _, _ => .bad
def popE (fo fa : DE0) : DE0 := fun r O => (fo r O).bind fun d O1 => if tyDic d O1 then (fa r O1).bind fun k O2 => popD d k O2 else .bad
theorem e_dpop (ho : DE C X W o fo) (ha : DE C X W e fa) (m : M1 X o "pop" apos e cpos := by exact ⟨rfl, rfl, rfl, rfl⟩) :
    DE C X W (.Call (.Attribute o "pop" apos) [e] [] cpos) (popE fo fa) :=
  let ⟨_, po, so⟩ := ho.ex; let ⟨_, pa, sa⟩ := ha.ex
  ⟨_, pe_dpop1 po pa m, fun g σ H r O R S Q h => so.seq R S h fun d O1 v g1 H1 e1 R1 S1 s1 h1 => by
    split at h1
    · rename_i hy
      unfold tyDic at hy
      cases q : dicOf d O1 with
      | none => rw [q] at hy; cases hy
      | some lk =>
        obtain ⟨l, kvs⟩ := lk
        obtain ⟨rfl, _, _, ws, h2, _⟩ := dicOf_of R1 s1 q
        refine ⟨_, rfl, .inl ⟨ws, .inl h2⟩, sa.seq R1 S1 h1 fun k O2 kv g2 H2 e2 R2 S2 s2 h4 => ?_⟩
        have h4 : Post C W σ g2 H2 (popD d k O2) Q := h4
        unfold popD at h4
        split at h4
        · rename_i l' kvs' k' eq1 eq2
          have sd := s1.mono e2.le
          obtain ⟨hv, hl', _, ws', h5, h6⟩ := dicOf_of R2 sd eq1
          have hkk := keyD_of s2 eq2
          subst hkk
          obtain ⟨a1, a2⟩ := shrK_get (k := k') h6
          split at h4
          · rename_i y z
            obtain ⟨u, b1, b2⟩ := a1 y z
            have ha : g1.θ l = g2.θ l' := by injection hv
            refine ⟨ws', kD k', u, by rw [ha]; exact h5, rfl, b1, ?_⟩
            rw [ha]
            exact h4 u g2 _ (Ext.set R2 hl') (R2.set hl' ⟨_, upd_same, shrK_del h6⟩) b2
          · exact h4.elim
        · exact h4.elim
    · exact h1.elim⟩
def popD2 (d k x : D) (O : Sto) : ER := match dicOf d O, keyD k with
  | some (l, kvs), some k => (match getK kvs k with | some v => .ok v (O.set l (.dic (delK kvs k))) | none => .ok x O)
  | _, _ => .bad
def popE2 (fo fa fb : DE0) : DE0 := fun r O => (fo r O).bind fun d O1 => if tyDic d O1 then (fa r O1).bind fun k O2 => (fb r O2).bind fun x O3 => popD2 d k x O3 else .bad
theorem e_dpop2 (ho : DE C X W o fo) (ha : DE C X W e fa) (hb : DE C X W f fb) (m : M2 X o "pop" apos e f cpos := by exact ⟨rfl, rfl, rfl, rfl⟩) :
    DE C X W (.Call (.Attribute o "pop" apos) [e, f] [] cpos) (popE2 fo fa fb) :=
  let ⟨_, po, so⟩ := ho.ex; let ⟨_, pa, sa⟩ := ha.ex; let ⟨_, pb, sb⟩ := hb.ex
  ⟨_, pe_dpop2 po pa pb m, fun g σ H r O R S Q h => so.seq R S h fun d O1 v g1 H1 e1 R1 S1 s1 h1 => by
    split at h1
    · rename_i hy
      unfold tyDic at hy
      cases q : dicOf d O1 with
      | none => rw [q] at hy; cases hy
      | some lk =>
        obtain ⟨l, kvs⟩ := lk
        obtain ⟨rfl, _, _, ws, h2, _⟩ := dicOf_of R1 s1 q
        refine ⟨_, rfl, .inl ⟨ws, .inl h2⟩, sa.seq R1 S1 h1 fun k O2 kv g2 H2 e2 R2 S2 s2 h3 => sb.seq R2 S2 h3 fun x O3 xv g3 H3 e3 R3 S3 s3 h4 => ?_⟩
        have h4 : Post C W σ g3 H3 (popD2 d k x O3) Q := h4
        unfold popD2 at h4
        split at h4
        · rename_i l' kvs' k' eq1 eq2
          have sd := (s1.mono e2.le).mono e3.le
          obtain ⟨hv, hl', _, ws', h5, h6⟩ := dicOf_of R3 sd eq1
          have hkk := keyD_of s2 eq2
          subst hkk
          obtain ⟨a1, a2⟩ := shrK_get (k := k') h6
          have ha : g1.θ l = g3.θ l' := by injection hv
          refine ⟨ws', kD k', by rw [ha]; exact h5, rfl, fun u hu => ?_, fun hn => ?_⟩
          · split at h4
            · rename_i y z
              obtain ⟨u', b1, b2⟩ := a1 y z
              rw [b1] at hu
              cases hu
              rw [ha]
              exact h4 _ g3 _ (Ext.set R3 hl') (R3.set hl' ⟨_, upd_same, shrK_del h6⟩) b2
            · rename_i z
              rw [a2 z] at hu; cases hu
          · split at h4
            · rename_i y z
              obtain ⟨u', b1, b2⟩ := a1 y z
              rw [b1] at hn; cases hn
            · exact Post.fin R3 s3 h4
        · exact h4.elim
    · exact h1.elim⟩
end
end Dn
set_option Elab.async false
set_option linter.all false
set_option maxRecDepth 100000
set_option maxHeartbeats 4000000
namespace Dn
open PySem PySem.Spec PyProof.Rows L2
section
variable {C : Ctx} {X : Cx} {W : WX}
/-! ### (x,) * n, 's' * n, of any n below 1000 -/
theorem tuple_mul1 (l : Addr) (items : Array Value) (n : Nat) (dd : Option Addr) (sl : Array (Option Value)) (u : Tok) :
    Meets (Builtin.«tuple.__mul__» ⟨[.ref l, .int 1 u], []⟩) (fun _ R s => s.heap.get? l = some { cls := .type "tuple", dict := dd, data := .seq items n, slots := sl } ∧ R (.ok (.ret (Value.ref l))) s) :=
  .of_wp fun prog w A R s h => by
    obtain ⟨hp, g, d, tk, os⟩ := s
    obtain ⟨hl, h⟩ := h
    have f1 := AutoSeq1.idx_int
    wp_walk using wpAny_loadPart' hl
    exact ⟨_, rfl, h⟩
theorem tuple_mul0 (l : Addr) (items : Array Value) (n : Nat) (dd : Option Addr) (sl : Array (Option Value)) (x : Int) (u : Tok) (c0 : (decide (x < -(2 ^ 63)) || decide (x ≥ 2 ^ 63)) = false) (c1 : (items.isEmpty || x == 1) = false)
    (c2 : (decide (x ≤ 0) || items.isEmpty) = true) :
    Meets (Builtin.«tuple.__mul__» ⟨[.ref l, .int x u], []⟩) (fun _ R s => s.heap.get? l = some { cls := .type "tuple", dict := dd, data := .seq items n, slots := sl } ∧
      R (.ok (.ret (Value.ref s.heap.objs.size))) { s with heap := s.heap.push { cls := Value.type "tuple", data := Data.seq #[] }, toks := s.toks }) :=
  .of_wp fun prog w A R s h => by
    obtain ⟨hp, g, d, tk, os⟩ := s
    obtain ⟨hl, h⟩ := h
    have f1 := AutoSeq1.idx_int
    wp_walk using wpAny_loadPart' hl
    repeat (first
      | (refine wpAny_ite_false (decide_eq_false (by rw [c0]; exact Bool.false_ne_true)) ?_; wp_walk using wpAny_loadPart' hl)
      | (refine wpAny_ite_false (decide_eq_false (by rw [c1]; exact Bool.false_ne_true)) ?_; wp_walk using wpAny_loadPart' hl)
      | (refine wpAny_ite_true (decide_eq_true c2) ?_; wp_walk using wpAny_loadPart' hl))
    exact ⟨_, rfl, h⟩
def rRepT1 (K : PySem.W.Frag) : R2 := fun x y H Q => ∃ l xs, x = .ref l ∧ y = .int 1 ∧ SqT K H l xs ∧ Q (.ref l) H
def rRepT0 (K : PySem.W.Frag) : R2 := fun x y H Q => ∃ l k xs, x = .ref l ∧ y = .int k ∧ SqT K H l xs ∧ xs ≠ [] ∧ -1000000 ≤ k ∧ k ≤ 0 ∧ ∀ p, H p = none → Q (.ref p) (upd H p (.tup []))
theorem op_repT1 : OpR X (binaryOp .Mult) (rRepT1 X.K) := by
  intro pins s σ H x y v u Q I rx ry h
  obtain ⟨l, xs, rfl, rfl, hT, q⟩ := h
  cases rx
  obtain ⟨t, rfl⟩ := ry
  obtain ⟨its, r, ⟨⟨cls, dd, data, sl⟩, ho, hc, n, hd⟩, hs⟩ := I.tuple hT
  simp only at hc hd
  subst hc hd
  exact wpAny_binaryOp_repeat_ref (T := "tuple") (U := "int") (by decide) ⟨_, ho, rfl⟩ (fun s' => typeIs_int s' 1 t) noFill_tuple_mul F.fills_int_mul F.slot_int_rmul repeat_tuple F.slot_int_index.lookup
    (call_meets F.slot_int_rmul (typeIs_int s 1 t) F.entry_int_rmul (F.args_int_rmul_2 _ _) (int_rmul_tuple 1 t l its.toArray n dd sl)
      ⟨ho, rfl, ⟨_, ho, rfl⟩, call_meets F.slot_tuple_mul ⟨_, ho, rfl⟩ F.entry_tuple_mul (F.args_tuple_mul_2 _ _) (tuple_mul1 l its.toArray n dd sl t) ⟨ho, ⟨.ref l, H, I, rfl, q⟩⟩⟩)
theorem op_repT0 : OpR X (binaryOp .Mult) (rRepT0 X.K) := by
  intro pins s σ H x y v u Q I rx ry h
  obtain ⟨l, k, xs, rfl, rfl, hT, hne, h1, h2, q⟩ := h
  cases rx
  obtain ⟨t, rfl⟩ := ry
  obtain ⟨its, r, ⟨⟨cls, dd, data, sl⟩, ho, hc, n, hd⟩, hs⟩ := I.tuple hT
  simp only at hc hd
  subst hc hd
  have hle : its.length = xs.length := r.length.symm
  have hn : its ≠ [] := fun e => hne (by
    rw [e] at hle
    exact List.eq_nil_of_length_eq_zero hle.symm)
  have hi : its.toArray.isEmpty = false := by
    cases its with
    | nil => exact absurd rfl hn
    | cons a b => rfl
  have c0 : (decide (k < -(2 ^ 63)) || decide (k ≥ 2 ^ 63)) = false := by
    rw [decide_eq_false (by omega), decide_eq_false (by omega)] <;> rfl
  have c1 : (its.toArray.isEmpty || k == 1) = false := by
    rw [hi, Bool.false_or]
    exact beq_eq_false_iff_ne.mpr (by omega)
  have c2 : (decide (k ≤ 0) || its.toArray.isEmpty) = true := by
    rw [decide_eq_true h2]; rfl
  refine wpAny_binaryOp_repeat_ref (T := "tuple") (U := "int") (by decide) ⟨_, ho, rfl⟩ (fun s' => typeIs_int s' k t) noFill_tuple_mul F.fills_int_mul F.slot_int_rmul repeat_tuple F.slot_int_index.lookup
    (call_meets F.slot_int_rmul (typeIs_int s k t) F.entry_int_rmul (F.args_int_rmul_2 _ _) (int_rmul_tuple k t l its.toArray n dd sl)
      ⟨ho, rfl, ⟨_, ho, rfl⟩, call_meets F.slot_tuple_mul ⟨_, ho, rfl⟩ F.entry_tuple_mul (F.args_tuple_mul_2 _ _) (tuple_mul0 l its.toArray n dd sl k t c0 c1 c2) ⟨ho, ?_⟩⟩)
  refine ⟨.ref s.heap.objs.size, _, I.laid (t' := s.toks) (o := .tup []) (fun b ob q => Heap.get?_push_of_some _ q) (Nat.le_refl _) ?_, rfl, q _ (I.hok.fresh (Nat.le_refl _))⟩
  exact ⟨by rw [sizeLine_eq]; decide, [], .nil, IsTup.new _ _⟩
def mulTD : O2 := fun a b O => match a, b with
  | .tup xs, .int k => if decide (xs ≠ []) && decide (-1000000 ≤ k) && decide (k ≤ 1000) && decide (xs.length ≤ 1000) then .ok (.tup (List.replicate k.toNat xs).flatten) O else .bad
  | _, _ => .bad
def rMulT (K : PySem.W.Frag) : R2 := fun x y H Q => rRepT1 K x y H Q ∨ rRepT0 K x y H Q ∨ rRepT K x y H Q
theorem op_mulT : OpR X (binaryOp .Mult) (rMulT X.K) := op_repT1.or (op_repT0.or op_repT)
theorem s_mulT : Sat2 C W (rMulT C.K) mulTD := by
  intro g H O R a b x y sx sy σ Q h
  unfold mulTD at h
  split at h
  · rename_i xs k
    have sx' := sx
    cases sy
    simp only [Shr] at sx
    obtain ⟨a, vs, rfl, a2, a3⟩ := sx
    split at h
    · rename_i hc
      simp only [Bool.and_eq_true, decide_eq_true_eq] at hc
      have hl := shrL_len a3
      have hv : vs ≠ [] := fun z => hc.1.1.1 (by subst z; exact List.eq_nil_of_length_eq_zero (by simpa using hl.symm))
      by_cases h1 : k = 1
      · subst h1
        refine .inl ⟨a, vs, rfl, rfl, ex_t R.F a2, Post.fin R (v := V.ref a) ?_ h⟩
        have : (List.replicate (1 : Int).toNat xs).flatten = xs := by simp
        rw [this]
        exact sx'
      · by_cases h0 : k ≤ 0
        · refine .inr (.inl ⟨a, k, vs, rfl, rfl, ex_t R.F a2, hv, hc.1.1.2, h0, fun p hp => ?_⟩)
          have : k.toNat = 0 := by omega
          rw [this] at h
          exact new_tup R (by simp [ShrL]) h hp
        · exact .inr (.inr ⟨a, k, vs, rfl, rfl, ex_t R.F a2, hv, by omega, hc.1.2, by omega, fun p hp => new_tup R (shrL_rep a3 _) h hp⟩)
    · exact h.elim
  · exact h.elim
variable {a b : Expr} {fa fb : DE0} {pos : Pos}
theorem e_mulT (hK : X.K = C.K) (ha : DE C X W a fa) (hb : DE C X W b fb) : DE C X W (.BinOp a .Mult b pos) (op2 mulTD fa fb) := d_op (op_mulT (X := X)) (by rw [hK]; exact s_mulT) ha hb
/-- texts -/
def mulS2D : O2 := fun a b O => match a, b with
  | .str x, .int k => if decide (x ≠ []) && decide (-1000000 ≤ k) && decide (k ≤ 1000) && decide (x.length ≤ 1000) then .ok (.str (List.replicate k.toNat x).flatten) O else .bad
  | _, _ => .bad
def rRepS2 : R2 := fun x y H Q => ∃ (a : List Nat) (k : Int), x = .str (mkS a) ∧ y = .int k ∧ a ≠ [] ∧ -1000000 ≤ k ∧ k ≤ 1000 ∧ a.length ≤ 1000 ∧ Q (.str (mkS (List.replicate k.toNat a).flatten)) H
theorem op_repS2 : OpR X (binaryOp .Mult) rRepS2 := by
  intro pins s σ H x y v u Q I rx ry h
  obtain ⟨a, k, rfl, rfl, hne, h1, h2, h3, q⟩ := h
  obtain ⟨t, rfl⟩ := rx
  obtain ⟨t', rfl⟩ := ry
  have hl : (mkS a).length = a.length := by simp [mkS, Str.length]
  have h0 : a.length ≠ 0 := fun e => hne (List.eq_nil_of_length_eq_zero e)
  refine P.mul_str ?_ ?_ ?_ ?_
  · rw [decide_eq_false (by omega), decide_eq_false (by omega)]; rfl
  · intro hk _ hh
    rw [hl] at hh
    have h5 : (1000 : Int) ≤ 9223372036854775807 / k := by
      refine (Int.le_ediv_iff_mul_le (by omega)).mpr ?_
      omega
    have h6 : ((2 : Int) ^ 63 - 1) = 9223372036854775807 := by decide
    rw [h6] at hh
    omega
  · intro _ _
    rw [hl]
    have h4 : a.length * k.toNat ≤ 1000 * 1000 := Nat.mul_le_mul h3 (by omega)
    simp only [Builtin.Str.tooLong, decide_eq_false_iff_not]
    have : sizeLine = 2 ^ 24 := rfl
    omega
  · by_cases k0 : k < 1
    · rw [if_pos k0]
      have : k.toNat = 0 := by omega
      rw [this] at q
      refine ⟨by decide, ⟨.str (mkS (List.replicate 0 a).flatten), H, I.tok _, ⟨s.toks, rfl⟩, q⟩⟩
    · rw [if_neg k0]
      by_cases k1 : k = 1
      · subst k1
        rw [if_pos (by rfl)]
        refine ⟨.str (mkS (List.replicate (1 : Int).toNat a).flatten), H, I, ⟨t, ?_⟩, q⟩
        have : (List.replicate (1 : Int).toNat a).flatten = a := by simp
        rw [this]
      · have hb : (k == 1 || (mkS a).length == 0) = false := by
          rw [hl, Bool.or_eq_false_iff]
          exact ⟨beq_eq_false_iff_ne.mpr k1, beq_eq_false_iff_ne.mpr h0⟩
        rw [if_neg (by rw [hb]; decide)]
        have e : (⟨(List.replicate k.toNat (mkS a).cps).foldl (· ++ ·) #[]⟩ : Str) = mkS (List.replicate k.toNat a).flatten := by
          rw [fold_app]; simp [mkS]
        rw [e]
        have h4 : k.toNat * a.length ≤ 1000 * 1000 := Nat.mul_le_mul (by omega) h3
        refine ⟨?_, ⟨.str (mkS (List.replicate k.toNat a).flatten), H, I.tok _, ⟨s.toks, rfl⟩, q⟩⟩
        have h7 : (mkS (List.replicate k.toNat a).flatten).length = k.toNat * a.length := by simp [mkS, Str.length]
        have : sizeLine = 2 ^ 24 := rfl
        rw [h7, this]; omega
theorem s_mulS2 : Sat2 C W rRepS2 mulS2D := by
  intro g H O R a b x y sx sy σ Q h
  unfold mulS2D at h
  split at h
  · cases sx; cases sy
    split at h
    · rename_i hc
      simp only [Bool.and_eq_true, decide_eq_true_eq] at hc
      exact ⟨_, _, rfl, rfl, hc.1.1.1, hc.1.1.2, hc.1.2, hc.2, Post.fin R rfl h⟩
    · exact h.elim
  · exact h.elim
theorem e_mulS2 (ha : DE C X W a fa) (hb : DE C X W b fb) : DE C X W (.BinOp a .Mult b pos) (op2 mulS2D fa fb) := d_op op_repS2 s_mulS2 ha hb
end
end Dn
set_option Elab.async false
set_option linter.all false
set_option maxRecDepth 100000
set_option maxHeartbeats 4000000
namespace Dn
open PySem PySem.Spec PyProof.Rows L2
section
variable {C : Ctx} {X : Cx} {W : WX}
theorem CallR.or {v : Value} {r r' : List V → Hp → VK → Prop} (h : CallR X v r) (h' : CallR X v r') : CallR X v (fun xs H Q => r xs H Q ∨ r' xs H Q) :=
  fun pins s σ H xs us Q I rs q => q.elim (h pins s σ H xs us Q I rs) (h' pins s σ H xs us Q I rs)
/-! ### lists of whole numbers -/
def intsD : List D → Option (List Int)
  | [] => some []
  | .int i :: ds => (intsD ds).map (i :: ·)
  | _ :: _ => none
theorem shrL_intsD {K : PySem.W.Frag} {g : G} : ∀ {ds : List D} {ns : List Int} {vs : List V}, intsD ds = some ns → ShrL K g ds vs → vs = ns.map V.int
  | [], ns, vs, e, s => by simp [intsD] at e; subst e; simp only [ShrL] at s; rw [s]; rfl
  | d :: ds, ns, vs, e, s => by
    cases d with
    | int i =>
      simp only [intsD, Option.map_eq_some_iff] at e
      obtain ⟨ms, e1, rfl⟩ := e
      simp only [ShrL] at s
      obtain ⟨v, q, rfl, sv, sq⟩ := s
      cases sv
      rw [shrL_intsD e1 sq]; rfl
    | _ => simp [intsD] at e
theorem intsD_map : ∀ ns : List Int, intsD (ns.map D.int) = some ns
  | [] => rfl
  | n :: ns => by simp [intsD, intsD_map ns]
def min1F : List D → Sto → ER := fun ds O => match ds with
  | [d] => (match listR d O with | some xs => (match intsD xs with | some ns => (match ns.min? with | some m => .ok (.int m) O | none => .bad) | none => .bad) | none => .bad)
  | _ => .bad
def max1F : List D → Sto → ER := fun ds O => match ds with
  | [d] => (match listR d O with | some xs => (match intsD xs with | some ns => (match ns.max? with | some m => .ok (.int m) O | none => .bad) | none => .bad) | none => .bad)
  | _ => .bad
theorem s_min1 : SatC C W (rMin C.K) min1F := by
  intro g H O R ds vs s σ Q h
  unfold min1F at h
  split at h
  · rename_i d
    obtain ⟨v, rfl, sv⟩ := shrL_one s
    split at h
    · rename_i xs ex
      split at h
      · rename_i ns en
        split at h
        · rename_i m em
          obtain ⟨a, ws, rfl, h1, h2⟩ := listR_of R sv ex
          have hw := shrL_intsD en h2
          subst hw
          obtain ⟨m1, m2⟩ := (List.min?_eq_some_iff).mp em
          refine ⟨a, ns, rfl, h1, List.length_pos_of_mem m1, fun k hk hl => ?_⟩
          have : k = m := by have := hl m m1; have := m2 k hk; omega
          subst this
          exact Post.fin R rfl h
        · exact h.elim
      · exact h.elim
    · exact h.elim
  · exact h.elim
theorem s_max1 : SatC C W (rMax C.K) max1F := by
  intro g H O R ds vs s σ Q h
  unfold max1F at h
  split at h
  · rename_i d
    obtain ⟨v, rfl, sv⟩ := shrL_one s
    split at h
    · rename_i xs ex
      split at h
      · rename_i ns en
        split at h
        · rename_i m em
          obtain ⟨a, ws, rfl, h1, h2⟩ := listR_of R sv ex
          have hw := shrL_intsD en h2
          subst hw
          obtain ⟨m1, m2⟩ := (List.max?_eq_some_iff).mp em
          refine ⟨a, ns, rfl, h1, List.length_pos_of_mem m1, fun k hk hl => ?_⟩
          have : k = m := by have := hl m m1; have := m2 k hk; omega
          subst this
          exact Post.fin R rfl h
        · exact h.elim
      · exact h.elim
    · exact h.elim
  · exact h.elim
variable {e : Expr} {es : List Expr} {fas : Rho → Sto → Res (List D)} {p pos : Pos}
theorem e_min1 (hK : X.K = C.K) (hc : X.calm = true) (hm : X.mg "min" = none) (hg : Gl X "min") (ha : DA C X W (e :: es) fas)
    (he : starEach (e :: es) X.env = (false, eval e X.env) :: starEach es X.env := by rfl) (hpl : (backTo pos (starEach es X.env)).any (·.1) = false := by rfl) : DE C X W (.Call (.Name "min" p) (e :: es) [] pos) (callE min1F fas) :=
  d_callB (cr_min hc) (by rw [hK]; exact s_min1) hg hm (by decide +kernel) ha (by decide) (by decide) he hpl
theorem e_max1 (hK : X.K = C.K) (hc : X.calm = true) (hm : X.mg "max" = none) (hg : Gl X "max") (ha : DA C X W (e :: es) fas)
    (he : starEach (e :: es) X.env = (false, eval e X.env) :: starEach es X.env := by rfl) (hpl : (backTo pos (starEach es X.env)).any (·.1) = false := by rfl) : DE C X W (.Call (.Name "max" p) (e :: es) [] pos) (callE max1F fas) :=
  d_callB (cr_max hc) (by rw [hK]; exact s_max1) hg hm (by decide +kernel) ha (by decide) (by decide) he hpl
/-! ### sorted -/
theorem ltCps_eq : ∀ a b : List Nat, ltCps a b = decide (a < b)
  | [], [] => by simp [ltCps]
  | [], _ :: _ => by simp [ltCps]
  | _ :: _, [] => by simp [ltCps]
  | a :: r, b :: t => by
    rw [StrLaws.lt_cons_cons, ltCps, ltCps_eq r t]
def leS (a b : List Nat) : Bool := !ltCps b a
theorem leS_iff (a b : List Nat) : leS a b = true ↔ a ≤ b := by
  unfold leS
  rw [ltCps_eq]
  simp
theorem leS_trans (a b c : List Nat) (h : leS a b = true) (k : leS b c = true) : leS a c = true := by
  rw [leS_iff] at *
  exact List.le_trans h k
theorem leS_total (a b : List Nat) : (leS a b || leS b a) = true := by
  rw [Bool.or_eq_true, leS_iff, leS_iff]
  exact List.le_total a b
theorem leS_anti (a b : List Nat) (h : leS a b = true) (k : leS b a = true) : a = b := by
  rw [leS_iff] at *
  exact List.le_antisymm h k
def sortS (l : List (List Nat)) : List (List Nat) := l.mergeSort leS
theorem risingS_pw : ∀ (r : List Str) (p : Str), risingS p r = true → (∀ x ∈ r, leS p.cps.toList x.cps.toList = true) ∧ r.Pairwise (fun a b => leS a.cps.toList b.cps.toList = true)
  | [], p, _ => ⟨fun _ h => (nomatch h), List.Pairwise.nil⟩
  | x :: r, p, h => by
    simp only [risingS, Bool.and_eq_true] at h
    obtain ⟨h1, h2⟩ := risingS_pw r x h.2
    have h0 : leS p.cps.toList x.cps.toList = true := h.1
    refine ⟨fun y hy => ?_, List.Pairwise.cons h1 h2⟩
    rcases List.mem_cons.mp hy with rfl | hy
    · exact h0
    · exact leS_trans _ _ _ h0 (h1 y hy)
theorem sortedS_pw {ys : List Str} (h : sortedS ys = true) : ys.Pairwise (fun a b => leS a.cps.toList b.cps.toList = true) := by
  cases ys with
  | nil => exact .nil
  | cons x r => exact List.Pairwise.cons (risingS_pw r x h).1 (risingS_pw r x h).2
theorem sortS_is {ys : List Str} {xs : List (List Nat)} (hp : ys.Perm (xs.map mkS)) (hs : sortedS ys = true) : ys = (sortS xs).map mkS := by
  have h1 : (ys.map TL.tl).Perm xs := by
    have := hp.map TL.tl
    rw [map_tl_mkS] at this
    exact this
  have h2 : (ys.map TL.tl).Pairwise (fun a b => leS a b = true) := by
    rw [List.pairwise_map]; exact sortedS_pw hs
  have h3 : (sortS xs).Pairwise (fun a b => leS a b = true) := List.pairwise_mergeSort leS_trans leS_total xs
  have h4 : ys.map TL.tl = sortS xs := List.Perm.eq_of_pairwise (fun a b _ _ => leS_anti a b) h2 h3 (h1.trans (List.mergeSort_perm _ _).symm)
  refine TL.map_tl_inj ?_
  rw [h4, map_tl_mkS]
def sortI (l : List Int) : List Int := l.mergeSort fun a b => decide (a ≤ b)
theorem sortI_is {ys xs : List Int} (hp : ys.Perm xs) (hs : ys.Pairwise (· ≤ ·)) : ys = sortI xs := by
  have h3 : (sortI xs).Pairwise (fun a b => decide (a ≤ b) = true) := List.pairwise_mergeSort (fun a b c h k => by simp at *; omega) (fun a b => by simp; omega) xs
  refine List.Perm.eq_of_pairwise (le := fun a b => a ≤ b) (fun a b _ _ h k => by omega) hs (h3.imp fun h => by simpa using h) (hp.trans (List.mergeSort_perm _ _).symm)
/-- tuples of whole numbers, below 2^40 -/
abbrev bigB : Int := 1099511627776
def tupsD (d : Nat) : List D → Option (List (List Int))
  | [] => some []
  | .tup xs :: ds => match intsD xs with
    | some ns => if decide (ns.length = d) && ns.all (fun n => decide (0 ≤ n) && decide (n < bigB)) then (tupsD d ds).map (ns :: ·) else none
    | none => none
  | _ :: _ => none
def leT (a b : List Int) : Bool := decide (TS.code bigB a ≤ TS.code bigB b)
def sortT (l : List (List Int)) : List (List Int) := l.mergeSort leT
theorem code_inj' : ∀ {a b : List Int}, a.length = b.length → TS.Bd bigB a → TS.Bd bigB b → TS.code bigB a = TS.code bigB b → a = b
  | [], [], _, _, _, _ => rfl
  | [], _ :: _, h, _, _, _ => by simp at h
  | _ :: _, [], h, _, _, _ => by simp at h
  | x :: a, y :: b, h, h1, h2, e => by
    have hl : a.length = b.length := by simpa using h
    have hxy : x = y := by
      rcases Int.lt_trichotomy x y with q | q | q
      · have := TS.code_lt hl h1.tail h2.tail q; omega
      · exact q
      · have := TS.code_lt hl.symm h2.tail h1.tail q; omega
    subst hxy
    have e' : TS.code bigB a = TS.code bigB b := by
      have e1 : x * bigB ^ a.length + TS.code bigB a = x * bigB ^ b.length + TS.code bigB b := e
      rw [hl] at e1
      omega
    rw [code_inj' hl h1.tail h2.tail e']
theorem tupsD_spec {d : Nat} : ∀ {ds : List D} {L : List (List Int)}, tupsD d ds = some L → ds = L.map (fun ns => D.tup (ns.map D.int)) ∧ ∀ ns ∈ L, ns.length = d ∧ TS.Bd bigB ns
  | [], L, h => by simp [tupsD] at h; subst h; exact ⟨rfl, fun _ h => nomatch h⟩
  | e :: ds, L, h => by
    cases e with
    | tup xs =>
      simp only [tupsD] at h
      split at h
      · rename_i ns en
        split at h
        · rename_i hc
          simp only [Option.map_eq_some_iff] at h
          obtain ⟨L', h1, rfl⟩ := h
          obtain ⟨r1, r2⟩ := tupsD_spec h1
          have hx : xs = ns.map D.int := by
            have : ∀ (xs : List D) (ns : List Int), intsD xs = some ns → xs = ns.map D.int := by
              intro xs
              induction xs with
              | nil => intro ns h; simp [intsD] at h; subst h; rfl
              | cons a xs ih =>
                intro ns h
                cases a with
                | int i =>
                  simp only [intsD, Option.map_eq_some_iff] at h
                  obtain ⟨ms, h2, rfl⟩ := h
                  rw [ih ms h2]; rfl
                | _ => simp [intsD] at h
            exact this xs ns en
          simp only [Bool.and_eq_true, decide_eq_true_eq, List.all_eq_true] at hc
          refine ⟨by rw [r1, hx]; rfl, fun m hm => ?_⟩
          rcases List.mem_cons.mp hm with rfl | hm
          · exact ⟨hc.1, hc.2⟩
          · exact r2 m hm
        · cases h
      · cases h
    | _ => simp [tupsD] at h
theorem shrL_perm {K : PySem.W.Frag} {g : G} {vs ws : List V} (hp : ws.Perm vs) : ∀ {ds : List D}, ShrL K g ds vs → ∃ es, es.Perm ds ∧ ShrL K g es ws := by
  induction hp with
  | nil => intro ds h; exact ⟨ds, List.Perm.refl _, h⟩
  | cons x p ih =>
    intro ds h
    cases ds with
    | nil => simp [ShrL] at h
    | cons d ds =>
      simp only [ShrL] at h
      obtain ⟨v, r, e, h2, h3⟩ := h
      cases e
      obtain ⟨es, i1, i2⟩ := ih h3
      exact ⟨d :: es, i1.cons d, by simp only [ShrL]; exact ⟨_, _, rfl, h2, i2⟩⟩
  | swap x y l =>
    intro ds h
    match ds, h with
    | [], h => simp [ShrL] at h
    | [_], h => simp [ShrL] at h
    | d1 :: d2 :: ds, h =>
      simp only [ShrL] at h
      obtain ⟨v, r, e, h2, v2, r2, e2, h4, h5⟩ := h
      cases e; cases e2
      exact ⟨d2 :: d1 :: ds, List.Perm.swap _ _ _, by simp only [ShrL]; exact ⟨_, _, rfl, h4, _, _, rfl, h2, h5⟩⟩
  | trans p q ih1 ih2 =>
    intro ds h
    obtain ⟨es, a1, a2⟩ := ih2 h
    obtain ⟨fs, b1, b2⟩ := ih1 a2
    exact ⟨fs, b1.trans a1, b2⟩
theorem perm_map_inv {α β : Type} {f : α → β} {es xs : List β} (hp : es.Perm xs) : ∀ {L : List α}, xs = L.map f → ∃ L' : List α, es = L'.map f ∧ L'.Perm L := by
  induction hp with
  | nil => intro L h; exact ⟨L, h, List.Perm.refl _⟩
  | cons x p ih =>
    intro L h
    cases L with
    | nil => cases h
    | cons a L =>
      rw [List.map_cons] at h
      injection h with h1 h2
      obtain ⟨L', e, q⟩ := ih h2
      exact ⟨a :: L', by rw [List.map_cons, h1, e], q.cons a⟩
  | swap x y l =>
    intro L h
    match L, h with
    | [], h => cases h
    | [_], h => simp at h
    | a :: b :: L, h =>
      simp only [List.map_cons] at h
      injection h with h1 h2
      injection h2 with h2 h3
      exact ⟨b :: a :: L, by simp only [List.map_cons]; rw [h1, h2, h3], List.Perm.swap _ _ _⟩
  | trans p q ih1 ih2 =>
    intro L h
    obtain ⟨L1, e1, q1⟩ := ih2 h
    obtain ⟨L2, e2, q2⟩ := ih1 e1
    exact ⟨L2, e2, q2.trans q1⟩
/-- a dict's keys -/
def strKeys : List (DKey × D) → Option (List (List Nat))
  | [] => some []
  | (.inr x, _) :: r => (strKeys r).map (x :: ·)
  | _ :: _ => none
def intKeys : List (DKey × D) → Option (List Int)
  | [] => some []
  | (.inl x, _) :: r => (intKeys r).map (x :: ·)
  | _ :: _ => none
theorem shrK_strKeys {K : PySem.W.Frag} {g : G} : ∀ {kvs : List (DKey × D)} {ks : List (List Nat)} {vs : List (Key × V)}, strKeys kvs = some ks → ShrK K g kvs vs → vs.map (·.1) = (ks.map mkS).map Sum.inr
  | [], ks, vs, e, s => by simp [strKeys] at e; subst e; simp only [ShrK] at s; rw [s]; rfl
  | (k, d) :: r, ks, vs, e, s => by
    cases k with
    | inr x =>
      simp only [strKeys, Option.map_eq_some_iff] at e
      obtain ⟨ms, e1, rfl⟩ := e
      simp only [ShrK] at s
      obtain ⟨v, q, rfl, sv, sq⟩ := s
      rw [List.map_cons, shrK_strKeys e1 sq]; rfl
    | inl x => simp [strKeys] at e
theorem shrK_intKeys {K : PySem.W.Frag} {g : G} : ∀ {kvs : List (DKey × D)} {ks : List Int} {vs : List (Key × V)}, intKeys kvs = some ks → ShrK K g kvs vs → vs.map (·.1) = ks.map Sum.inl
  | [], ks, vs, e, s => by simp [intKeys] at e; subst e; simp only [ShrK] at s; rw [s]; rfl
  | (k, d) :: r, ks, vs, e, s => by
    cases k with
    | inl x =>
      simp only [intKeys, Option.map_eq_some_iff] at e
      obtain ⟨ms, e1, rfl⟩ := e
      simp only [ShrK] at s
      obtain ⟨v, q, rfl, sv, sq⟩ := s
      rw [List.map_cons, shrK_intKeys e1 sq]; rfl
    | inr x => simp [intKeys] at e
def tlen : List D → Nat
  | .tup xs :: _ => xs.length
  | _ => 0
def sortedF (m : Bool) : List D → Sto → ER := fun ds O => match ds with
  | [d] => (match dicOf d O with
    | some (_, kvs) => (match strKeys kvs with
      | some ks => if ks.length < 64 then mkL m ((sortS ks).map D.str) O else .bad
      | none => match intKeys kvs with
        | some ks => if ks.length < 64 then mkL m ((sortI ks).map D.int) O else .bad
        | none => .bad)
    | none => match listR d O with
      | some xs => (match strsD xs with
        | some ys => if ys.length < 64 then mkL m ((sortS ys).map D.str) O else .bad
        | none => match intsD xs with
          | some ns => mkL m ((sortI ns).map D.int) O
          | none => match tupsD (tlen xs) xs with
            | some L => if decide (L.length < 64) && decide (1 ≤ tlen xs) then mkL m ((sortT L).map fun ns => D.tup (ns.map D.int)) O else .bad
            | none => .bad)
      | none => .bad)
  | _ => .bad
def rSrtD : List V → Hp → VK → Prop := fun xs H Q => ∃ (a : Addr) (kvs : List (Key × V)) (ks : List Str), xs = [.ref a] ∧ Rd H a (.dK kvs) ∧ kvs.map (·.1) = ks.map Sum.inr ∧ ks.length < 64 ∧ ∀ ys p, ys.Perm ks → sortedS ys = true → H p = none → Q (.ref p) (upd H p (.lst (ys.map V.str)))
def rSrtDI : List V → Hp → VK → Prop := fun xs H Q => ∃ (a : Addr) (kvs : List (Key × V)) (ks : List Int), xs = [.ref a] ∧ Rd H a (.dK kvs) ∧ kvs.map (·.1) = ks.map Sum.inl ∧ ks.length < 64 ∧ ∀ (ys : List Int) (p : Addr), ys.Perm ks → ys.Pairwise (· ≤ ·) → H p = none → Q (.ref p) (upd H p (.lst (ys.map V.int)))
def rSrt (K : PySem.W.Frag) : List V → Hp → VK → Prop := fun xs H Q => rSrtD xs H Q ∨ rSrtDI xs H Q ∨ rSortedS K xs H Q ∨ rSortedI K xs H Q ∨ ∃ d : Nat, 1 ≤ d ∧ rSortU K d bigB xs H Q
theorem call_srt (hc : X.calm = true) : CallR X (.builtin "sorted") (rSrt X.K) :=
  CallR.or (call_sortedD hc) (CallR.or (call_sortedDI hc) (CallR.or cr_sortedS (CallR.or cr_sortedI fun pins s σ H xs us Q I rs ⟨d, hd, q⟩ => cr_sortT (B := bigB) hd pins s σ H xs us Q I rs q)))
theorem s_sorted (m : Bool) : SatC C W (rSrt C.K) (sortedF m) := by
  intro g H O R ds vs s σ Q h
  unfold sortedF at h
  split at h
  · rename_i d
    obtain ⟨v, rfl, sv⟩ := shrL_one s
    split at h
    · rename_i l kvs eq
      obtain ⟨rfl, _, _, ws, h2, h3⟩ := dicOf_of R sv eq
      split at h
      · rename_i ks ek
        split at h
        · rename_i hz
          refine .inl ⟨_, ws, ks.map mkS, rfl, .inl h2, shrK_strKeys ek h3, by simpa using hz, fun ys p hp hs hn => ?_⟩
          rw [sortS_is hp hs]
          exact new_lst R (strs_shrL _) h hn
        · exact h.elim
      · split at h
        · rename_i ks ek
          split at h
          · rename_i hz
            refine .inr (.inl ⟨_, ws, ks, rfl, .inl h2, shrK_intKeys ek h3, hz, fun ys p hp hs hn => ?_⟩)
            rw [sortI_is hp hs]
            exact new_lst R (shrL_ints _) h hn
          · exact h.elim
        · exact h.elim
    · split at h
      · rename_i xs ex
        obtain ⟨a, ws, rfl, h1, h2⟩ := listR_of R sv ex
        split at h
        · rename_i ys ey
          split at h
          · rename_i hz
            have hw := shrL_strs ey h2
            subst hw
            refine .inr (.inr (.inl ⟨a, ys.map mkS, rfl, h1, by simpa using hz, fun zs p hp hs hn => ?_⟩))
            rw [sortS_is hp hs]
            exact new_lst R (strs_shrL _) h hn
          · exact h.elim
        · split at h
          · rename_i ns en
            have hw := shrL_intsD en h2
            subst hw
            refine .inr (.inr (.inr (.inl ⟨a, ns, rfl, h1, fun zs p hp hs hn => ?_⟩)))
            rw [sortI_is hp hs]
            exact new_lst R (shrL_ints _) h hn
          · split at h
            · rename_i L eL
              split at h
              · rename_i hz
                simp only [Bool.and_eq_true, decide_eq_true_eq] at hz
                obtain ⟨r1, r2⟩ := tupsD_spec eL
                have hl : ws.length = L.length := by rw [shrL_len h2, r1]; simp
                have tupI : ∀ {ns : List Int} {w : V}, Shr C.K g (.tup (ns.map D.int)) w → TupI C.K H w ns := fun {ns w} hw => by
                  simp only [Shr] at hw
                  obtain ⟨b, us, rfl, k2, k3⟩ := hw
                  have := shrL_intsD (intsD_map ns) k3
                  subst this
                  exact ⟨b, rfl, ex_t R.F k2⟩
                refine .inr (.inr (.inr (.inr ⟨tlen xs, hz.2, a, ws, rfl, h1, by rw [hl]; exact hz.1, ?_, fun us p hp hs hn => ?_⟩)))
                · have : ∀ d ∈ xs, ∃ ns ∈ L, d = D.tup (ns.map D.int) := by
                    rw [r1]
                    intro d hd
                    obtain ⟨ns, hn, rfl⟩ := List.mem_map.mp hd
                    exact ⟨ns, hn, rfl⟩
                  exact shrL_mem h2 (P := fun d => ∃ ns ∈ L, d = D.tup (ns.map D.int)) (Q := fun w => ∃ ns, TupI C.K H w ns ∧ ns.length = tlen xs ∧ TS.Bd bigB ns) (fun d w _ sw ⟨ns, hn, e⟩ => by
                    subst e
                    exact ⟨ns, tupI sw, r2 ns hn⟩) this
                · obtain ⟨es, p1, p2⟩ := shrL_perm hp h2
                  -- what is listed is tuples again
                  have hes : ∃ L' : List (List Int), es = L'.map (fun ns => D.tup (ns.map D.int)) ∧ L'.Perm L := by
                    rw [r1] at p1
                    exact perm_map_inv p1 rfl
                  obtain ⟨L', rfl, pL⟩ := hes
                  have hpw : L'.Pairwise (fun a b => leT a b = true) := by
                    have gen : ∀ (L' : List (List Int)) (us : List V), ShrL C.K g (L'.map fun ns => D.tup (ns.map D.int)) us → us.Pairwise (fun x y => ∀ n m, TupI C.K H x n → TupI C.K H y m → TS.code bigB n ≤ TS.code bigB m) → L'.Pairwise (fun a b => leT a b = true) := by
                      intro L'
                      induction L' with
                      | nil => intros; exact .nil
                      | cons a L' ih =>
                        intro us hu pw
                        simp only [List.map_cons, ShrL] at hu
                        obtain ⟨w, r, rfl, sw, sr⟩ := hu
                        cases pw with
                        | cons q1 q2 =>
                          refine .cons (fun b hb => ?_) (ih r sr q2)
                          obtain ⟨i, hi⟩ := List.getElem?_of_mem hb
                          obtain ⟨u, e1, e2⟩ := shrL_get sr (i := i) (d := .tup (b.map D.int)) (by rw [List.getElem?_map, hi]; rfl)
                          exact decide_eq_true (q1 u (List.mem_of_getElem? e1) a b (tupI sw) (tupI e2))
                    exact gen L' us p2 hs
                  have hsame : L' = sortT L := by
                    have h3 : (sortT L).Pairwise (fun a b => leT a b = true) := List.pairwise_mergeSort (fun a b c h k => by simp [leT] at *; omega) (fun a b => by simp [leT]; omega) L
                    refine List.Perm.eq_of_pairwise (fun a b ha hb q1 q2 => ?_) hpw h3 (pL.trans (List.mergeSort_perm _ _).symm)
                    have ha' := r2 a (pL.subset ha)
                    have hb' := r2 b ((List.mergeSort_perm _ _).subset hb)
                    simp only [leT, decide_eq_true_eq] at q1 q2
                    exact code_inj' (ha'.1.trans hb'.1.symm) ha'.2 hb'.2 (Int.le_antisymm q1 q2)
                  subst hsame
                  exact new_lst R p2 h hn
              · exact h.elim
            · exact h.elim
      · exact h.elim
  · exact h.elim
theorem e_sorted (m : Bool) (hK : X.K = C.K) (hc : X.calm = true) (hm : X.mg "sorted" = none) (hg : Gl X "sorted") (ha : DA C X W (e :: es) fas)
    (he : starEach (e :: es) X.env = (false, eval e X.env) :: starEach es X.env := by rfl) (hpl : (backTo pos (starEach es X.env)).any (·.1) = false := by rfl) : DE C X W (.Call (.Name "sorted" p) (e :: es) [] pos) (callE (sortedF m) fas) :=
  d_callB (call_srt hc) (by rw [hK]; exact s_sorted m) hg hm (by decide +kernel) ha (by decide) (by decide) he hpl
end
end Dn
set_option Elab.async false
set_option linter.all false
set_option maxRecDepth 100000
set_option maxHeartbeats 4000000
namespace Dn
open PySem PySem.Spec PyProof.Rows L2
section
variable {C : Ctx} {X : Cx} {W : WX} {o e f x : Expr} {fo fa fb : DE0} {p apos cpos pos pos' : Pos}
/-! ### try with two clauses -/
def tryS2 (i j : Nat) (f h1 h2 : DS0) : DS0 := fun r O => match f r O with
  | .exc e r1 O1 => if e.cls = i then (match h1 r1 O1 with | .exc _ _ _ => .bad | y => y) else if e.cls = j then (match h2 r1 O1 with | .exc _ _ _ => .bad | y => y) else .exc e r1 O1
  | y => y
theorem suite_post {g g' : G} {H H' : Hp} {r1 : Rho} {O1 : Sto} {h : DS0} {E : Ends} (ex : Ext g H g' H') (R' : RepO C g' H' O1) {σ' : L2.St} (S' : RepS C g' σ' r1)
    (q : PostS C W g H (match h r1 O1 with | .exc _ _ _ => .bad | y => y) E) : tOf C noW h E σ' H' := by
  refine ⟨g', r1, O1, R', S', ?_⟩
  cases y : h r1 O1 with
  | exc _ _ _ => rw [y] at q; exact q.elim
  | nx _ _ => rw [y] at q; exact PostS.shift (x := .nx _ _) ex q
  | ret _ _ => rw [y] at q; exact PostS.shift (x := .ret _ _) ex q
  | bk _ _ => rw [y] at q; exact PostS.shift (x := .bk _ _) ex q
  | ct _ _ => rw [y] at q; exact PostS.shift (x := .ct _ _) ex q
  | bad => rw [y] at q; exact q
theorem s_try2 (i j : Nat) {x1 x2 : Str} {c1 c2 : Value} {n1 n2 p1 p2 : Pos} {b1 b2 : Stmt} {body su1 su2 : List Stmt} {f h1 h2 : DS0} (hs : X.stack = X.env :: X.outer) (hf : X.env.frame = some X.env.locals) (hK : X.K = C.K) (hc1 : Names X x1 c1) (hc2 : Names X x2 c2) (tk : Takes X W)
    (hm1 : ∀ k A', C.ec k = some A' → PySem.W.exmOne C.K (.ref A') c1 = some (decide (k = i)))
    (hm2 : ∀ k A', C.ec k = some A' → PySem.W.exmOne C.K (.ref A') c2 = some (decide (k = j)))
    (hb : ∀ (W' : WX) (pn : List (Addr × Obj)) (xe : Value → Shared → Prop), Takes (X.tr pn xe) W' → PassesOwn (model X.prog X.w) X.A X.env xe → DSs C (X.tr pn xe) W' body f)
    (hsu1 : ∀ (a : Addr) (pn : List (Addr × Obj)), DSs C (X.suite a pn) noW (b1 :: su1) h1)
    (hsu2 : ∀ (a : Addr) (pn : List (Addr × Obj)), DSs C (X.suite a pn) noW (b2 :: su2) h2) :
    DS C X W (.Try body [.ExceptHandler (some (.Name x1 n1)) none (b1 :: su1) p1, .ExceptHandler (some (.Name x2 n2)) none (b2 :: su2) p2] [] [] pos) (tryS2 i j f h1 h2) :=
  ⟨_, ps_try_many (tb := fun W' => tOf C W' f) (l := [(c1, fun _ _ _ => tOf C noW h1), (c2, fun _ _ _ => tOf C noW h2)]) (Wout := W) hs hf tk (fun W' pn xe t p => pss_of (hb W' pn xe t p))
    (.cons hc1 (fun a oe cls d pn _ _ => pss_of (hsu1 a _)) (.cons hc2 (fun a oe cls d pn _ _ => pss_of (hsu2 a _)) .nil)), fun g σ H r O R S E q => by
    refine ⟨g, r, O, R, S, ?_⟩
    unfold tryS2 at q
    cases z : f r O with
    | nx r1 O1 => rw [z] at q; exact q
    | ret d O1 => rw [z] at q; exact q
    | bk r1 O1 => rw [z] at q; exact q
    | ct r1 O1 => rw [z] at q; exact q
    | bad => rw [z] at q; exact q
    | exc e r1 O1 =>
      rw [z] at q
      intro cv dx σ' g' H' ex R' S' er
      obtain ⟨A', k1, rfl, k3⟩ := id er
      dsimp only at q
      refine ⟨decide (e.cls = i), by rw [hK]; exact hm1 _ _ k1, fun hb a _ => ?_, fun hb => ⟨decide (e.cls = j), by rw [hK]; exact hm2 _ _ k1, fun hb2 a _ => ?_, fun hb2 => ?_⟩⟩
      · simp only [decide_eq_true_eq] at hb
        rw [if_pos hb] at q
        exact suite_post ex R' S' q
      · simp only [decide_eq_false_iff_not] at hb
        simp only [decide_eq_true_eq] at hb2
        rw [if_neg hb, if_pos hb2] at q
        exact suite_post ex R' S' q
      · simp only [decide_eq_false_iff_not] at hb hb2
        rw [if_neg hb, if_neg hb2] at q
        exact q _ _ _ _ _ ex R' S' er⟩
/-! ### displays of dicts -/
def ShrPP (K : PySem.W.Frag) (g : G) : List (D × D) → List (V × V) → Prop
  | [], vs => vs = []
  | p :: ps, vs => ∃ v w r, vs = (v, w) :: r ∧ Shr K g p.1 v ∧ Shr K g p.2 w ∧ ShrPP K g ps r
theorem ShrPP.mono {K : PySem.W.Frag} {g g' : G} (e : GLe g g') : ∀ (ps : List (D × D)) (vs : List (V × V)), ShrPP K g ps vs → ShrPP K g' ps vs
  | [], _, h => h
  | p :: ps, vs, ⟨v, w, r, h1, h2, h3, h4⟩ => ⟨v, w, r, h1, Shr.mono e _ _ h2, Shr.mono e _ _ h3, ShrPP.mono e ps r h4⟩
instance : Rel (List (D × D)) (List (V × V)) := ⟨fun C => ShrPP C.K, fun e h => ShrPP.mono e _ _ h⟩
abbrev DP0 := Rho → Sto → Res (List (D × D))
structure DPs (C : Ctx) (X : Cx) (W : WX) (pos : Pos) (ks : List (Option Expr)) (vs : List Expr) (f : DP0) : Prop where
  ex : ∃ trs, PPs X pos ks vs trs ∧ Sat C W (tPairs trs) f
def nilP : DP0 := fun _ O => .ok [] O
def consP (fk fv : DE0) (rest : DP0) : DP0 := fun r O => (fk r O).bind fun k O1 => (fv r O1).bind fun v O2 => (rest r O2).bind fun ps O3 => .ok ((k, v) :: ps) O3
theorem p_nil : DPs C X W pos [] [] nilP := ⟨_, pps_nil, fun g σ H r O R S Q h => Post.fin (v := []) R (show ShrPP _ _ [] [] from rfl) h⟩
theorem p_cons {k v : Expr} {ks : List (Option Expr)} {vs : List Expr} {fk fv : DE0} {rest : DP0} (hk : DE C X W k fk) (hv : DE C X W v fv) (hr : DPs C X W pos ks vs rest) : DPs C X W pos (some k :: ks) (v :: vs) (consP fk fv rest) :=
  let ⟨_, pk, sk⟩ := hk.ex; let ⟨_, pv, sv⟩ := hv.ex; let ⟨_, pr, sr⟩ := hr.ex
  ⟨_, pps_cons pk pv pr, fun g σ H r O R S Q h => sk.seq R S h fun a O1 va g1 H1 e1 R1 S1 s1 h1 => sv.seq R1 S1 h1 fun b O2 vb g2 H2 e2 R2 S2 s2 h2 =>
    sr.seq R2 S2 h2 fun ps O3 vps g3 H3 e3 R3 S3 s3 h3 => Post.fin (v := (va, vb) :: vps) R3 (show ShrPP _ _ ((a, b) :: ps) _ from ⟨va, vb, vps, rfl, (Shr.mono e2.le _ _ s1 |>.mono e3.le), Shr.mono e3.le _ _ s2, s3⟩) h3⟩
def keysD : List (D × D) → Option (List (DKey × D))
  | [] => some []
  | (k, v) :: ps => match keyD k with | some k => (keysD ps).map ((k, v) :: ·) | none => none
def mergeD (acc kvs : List (DKey × D)) : List (DKey × D) := kvs.foldl (fun acc kv => putD acc kv.1 kv.2) acc
theorem keysD_of {K : PySem.W.Frag} {g : G} : ∀ {ps : List (D × D)} {kvs : List (DKey × D)} {vs : List (V × V)}, keysD ps = some kvs → ShrPP K g ps vs → ∃ ws, vs = ws.map (fun kv => (kV kv.1, kv.2)) ∧ ShrK K g kvs ws
  | [], kvs, vs, h, s => by simp [keysD] at h; subst h; exact ⟨[], s, by simp [ShrK]⟩
  | (k, v) :: ps, kvs, vs, h, s => by
    simp only [keysD] at h
    split at h
    · rename_i k' ek
      simp only [Option.map_eq_some_iff] at h
      obtain ⟨kvs', h1, rfl⟩ := h
      obtain ⟨a, b, r, rfl, s1, s2, s3⟩ := s
      obtain ⟨ws, rfl, h3⟩ := keysD_of h1 s3
      have := keyD_of s1 ek
      subst this
      exact ⟨(kD k', b) :: ws, rfl, by simp only [ShrK]; exact ⟨b, ws, rfl, s2, h3⟩⟩
    · cases h
theorem mergeD_of {K : PySem.W.Frag} {g : G} : ∀ {kvs : List (DKey × D)} {ws : List (Key × V)} {acc : List (DKey × D)} {as : List (Key × V)}, ShrK K g kvs ws → ShrK K g acc as → ShrK K g (mergeD acc kvs) (mergeK as ws)
  | [], ws, acc, as, h, k => by simp only [ShrK] at h; subst h; exact k
  | p :: kvs, ws, acc, as, h, k => by
    simp only [ShrK] at h
    obtain ⟨v, r, rfl, h2, h3⟩ := h
    exact mergeD_of (acc := putD acc p.1 p.2) (as := putK as (kD p.1) v) h3 (shrK_put h2 k)
def isDic0 (c : Option Cell) : Bool := match c with | some (.dic []) => true | _ => false
def dicE (f : DP0) : DE0 := fun r O => (f r (O ++ [.dic []])).bind fun ps O1 => match keysD ps with
  | some kvs => if decide (ps.length ≤ 15) && isDic0 O1[O.length]? then .ok (.ob O.length) (O1.set O.length (.dic (mergeD [] kvs))) else .bad
  | none => .bad
theorem keysD_len : ∀ {ps : List (D × D)} {kvs : List (DKey × D)}, keysD ps = some kvs → kvs.length = ps.length
  | [], kvs, h => by simp [keysD] at h; subst h; rfl
  | (k, v) :: ps, kvs, h => by
    simp only [keysD] at h
    split at h
    · simp only [Option.map_eq_some_iff] at h
      obtain ⟨kvs', h1, rfl⟩ := h
      simp [keysD_len h1]
    · cases h
theorem d_dict {keys : List (Option Expr)} {values : List Expr} {fp : DP0} (h : DPs C X W pos keys values fp) (hall : keys.all (·.isSome) = true := by rfl) (hl : keys.length = values.length := by rfl) (h0 : keys ≠ [] := by exact fun z => nomatch z) (h15 : keys.length ≤ 15 := by decide) :
    DE C X W (.Dict keys values pos) (dicE fp) :=
  let ⟨_, pp, sp⟩ := h.ex
  ⟨_, pe_disp pp hall hl h0 h15, fun g σ H r O R S Q q => fun p hp => by
    have hk : ∀ a o, H a = some o → upd H p (.dK []) a = some o := fun a o e => by rw [upd_ne (ne_of_none e hp)]; exact e
    have e0 := Ext.add R hp hk
    have R1 := R.add (c := .dic []) hp hk ⟨[], upd_same, by simp [ShrK]⟩
    have q1 := Post.shift e0 q
    refine sp.seq R1 (S.mono e0.le) q1 fun ps O1 vps g2 H2 e2 R2 S2 s2 h2 => ?_
    split at h2
    · rename_i kvs ek
      split at h2
      · rename_i hc
        simp only [Bool.and_eq_true, decide_eq_true_eq] at hc
        have hn : g.n < (g.add p).n := Nat.lt_succ_self _
        have hn2 : g.n < g2.n := Nat.lt_of_lt_of_le hn e2.le.n
        have hp2 : g2.θ g.n = p := by rw [e2.le.θ _ hn, G.add_at]
        have hcell : O1[O.length]? = some (.dic []) := by
          have := hc.2
          unfold isDic0 at this
          split at this
          · assumption
          · cases this
        obtain ⟨vs0, hv0, hv1⟩ := R2.cell _ _ hcell
        simp only [ShrK] at hv1
        subst hv1
        rw [← R.n, hp2] at hv0
        obtain ⟨ws, rfl, hw⟩ := keysD_of ek s2
        refine ⟨hv0, ws, rfl, by rw [shrK_len hw, keysD_len ek]; exact hc.1, ?_⟩
        have hset := Ext.set (o := .dK (mergeK [] ws)) R2 hn2
        have rset := R2.set (o := .dK (mergeK [] ws)) (c := .dic (mergeD [] kvs)) hn2 ⟨_, upd_same, mergeD_of hw (by simp [ShrK])⟩
        rw [hp2] at hset rset
        rw [R.n] at rset
        refine h2 _ g2 _ hset rset ?_
        show Shr _ _ (.ob O.length) _
        simp only [Shr]
        rw [← R.n, hp2]
        exact ⟨rfl, hn2⟩
      · exact h2.elim
    · exact h2.elim⟩
/-! ### d.setdefault(k, x) -/
def setdD (d k x : D) (O : Sto) : ER := match dicOf d O, keyD k with
  | some (l, kvs), some k => if kvs.length < sizeLine then (match getK kvs k with | some v => .ok v O | none => .ok x (O.set l (.dic (putD kvs k x)))) else .bad
  | _, _ => .bad
def setdefaultE2 (fo fa fb : DE0) : DE0 := fun r O => (fo r O).bind fun d O1 => if tyDic d O1 then (fa r O1).bind fun k O2 => (fb r O2).bind fun x O3 => setdD d k x O3 else .bad
theorem e_setdefault2 (ho : DE C X W o fo) (ha : DE C X W e fa) (hb : DE C X W f fb) (m : M2 X o "setdefault" apos e f cpos := by exact ⟨rfl, rfl, rfl, rfl⟩) :
    DE C X W (.Call (.Attribute o "setdefault" apos) [e, f] [] cpos) (setdefaultE2 fo fa fb) :=
  let ⟨_, po, so⟩ := ho.ex; let ⟨_, pa, sa⟩ := ha.ex; let ⟨_, pb, sb⟩ := hb.ex
  ⟨_, pe_dsetd po pa pb m, fun g σ H r O R S Q h => so.seq R S h fun d O1 v g1 H1 e1 R1 S1 s1 h1 => by
    split at h1
    · rename_i hy
      unfold tyDic at hy
      cases q : dicOf d O1 with
      | none => rw [q] at hy; cases hy
      | some lk =>
        obtain ⟨l, kvs⟩ := lk
        obtain ⟨rfl, _, _, ws, h2, _⟩ := dicOf_of R1 s1 q
        refine ⟨_, rfl, .inl ⟨ws, .inl h2⟩, sa.seq R1 S1 h1 fun k O2 kv g2 H2 e2 R2 S2 s2 h3 => sb.seq R2 S2 h3 fun x O3 xv g3 H3 e3 R3 S3 s3 h4 => ?_⟩
        have h4 : Post C W σ g3 H3 (setdD d k x O3) Q := h4
        unfold setdD at h4
        split at h4
        · rename_i l' kvs' k' eq1 eq2
          have sd := (s1.mono e2.le).mono e3.le
          obtain ⟨hv, hl', _, ws', h5, h6⟩ := dicOf_of R3 sd eq1
          have hkk := keyD_of s2 eq2
          subst hkk
          obtain ⟨a1, a2⟩ := shrK_get (k := k') h6
          have ha : g1.θ l = g3.θ l' := by injection hv
          split at h4
          · rename_i hz
            refine ⟨ws', kD k', by rw [ha]; exact h5, rfl, by rw [shrK_len h6]; exact hz, fun u hu => ?_, fun hn => ?_⟩
            · split at h4
              · rename_i y z
                obtain ⟨u', b1, b2⟩ := a1 y z
                rw [b1] at hu; cases hu
                exact Post.fin R3 b2 h4
              · rename_i z
                rw [a2 z] at hu; cases hu
            · split at h4
              · rename_i y z
                obtain ⟨u', b1, b2⟩ := a1 y z
                rw [b1] at hn; cases hn
              · rw [ha]
                exact h4 xv g3 _ (Ext.set R3 hl') (R3.set hl' ⟨_, upd_same, shrK_put s3 h6⟩) s3
          · exact h4.elim
        · exact h4.elim
    · exact h1.elim⟩
/-! ### list(d.items()) -/
def keyB : DKey → D
  | .inl i => .int i
  | .inr x => .str x
def itemsL (kvs : List (DKey × D)) : List D := kvs.map fun p => .tup [keyB p.1, p.2]
def listItemsE (fo : DE0) : DE0 := fun r O => (fo r O).bind fun d O1 => match dicOf d O1 with | some (_, kvs) => .ok (.lst (itemsL kvs)) O1 | none => .bad
theorem e_listItems (hc : X.calm = true) (ho : DE C X W o fo) (hg : Gl X "list") (hm : X.mg "list" = none) (hbase : attributeBase o "items" X.env (eval o X.env) = eval o X.env := by rfl) (hline : (apos.endLine == cpos.line) = true := by rfl)
    (hs : starEach [.Call (.Attribute o "items" apos) [] [] cpos] X.env = (false, eval (.Call (.Attribute o "items" apos) [] [] cpos) X.env) :: starEach [] X.env := by rfl) :
    DE C X W (.Call (.Name "list" p) [.Call (.Attribute o "items" apos) [] [] cpos] [] pos) (listItemsE fo) :=
  let ⟨_, po, so⟩ := ho.ex
  ⟨_, LiI.pe_listItems hc po hg hm (by decide +kernel) hbase hline hs, fun g σ H r O R S Q h => so.seq R S h fun d O1 v g1 H1 e1 R1 S1 s1 h1 => by
    have h1 : Post C W σ g1 H1 (match dicOf d O1 with | some (_, kvs) => Res.ok (D.lst (itemsL kvs)) O1 | none => Res.bad) Q := h1
    split at h1
    · rename_i l kvs eq
      obtain ⟨rfl, hl, _, ws, h2, h3⟩ := dicOf_of R1 s1 eq
      refine ⟨_, ws, rfl, h2, fun H' p ts keep hp hts hnot hl1 hpair => ?_⟩
      let g' : G := { g1 with F := fun a => if a = p ∨ a ∈ ts then H' a else g1.F a }
      have hF : ∀ a o, g1.F a = some o → g'.F a = some o := fun a o e => by
        have ha := R1.F a o e
        have : ¬ (a = p ∨ a ∈ ts) := by
          rintro (z | z)
          · rw [z, hp] at ha; cases ha
          · rw [hts a z] at ha; cases ha
        show (if a = p ∨ a ∈ ts then H' a else g1.F a) = some o
        rw [if_neg this]; exact e
      have le : GLe g1 g' := ⟨hF, fun _ _ => rfl, Nat.le_refl _⟩
      have ext : Ext g1 H1 g' H' := ⟨le, fun a o e _ => keep a o e, fun k a b => absurd b (Nat.not_lt.mpr a), fun k hk => by
        cases z : H1 (g1.θ k) with
        | none => exact absurd z (R1.trk hk)
        | some u => rw [keep _ _ z]; exact (fun y => (nomatch y)), fun a o e => by
        have e' : (if a = p ∨ a ∈ ts then H' a else g1.F a) = some o := e
        split at e'
        · rename_i z
          rcases z with z | z
          · exact .inr (z ▸ hp)
          · exact .inr (hts a z)
        · exact .inl e'⟩
      have rep : RepO C g' H' O1 := by
        refine ⟨R1.n, fun a o e => ?_, fun k c e => ?_, fun k hk => ?_, R1.inj⟩
        · have e' : (if a = p ∨ a ∈ ts then H' a else g1.F a) = some o := e
          split at e'
          · exact e'
          · exact keep a o (R1.F a o e')
        · have c1 := (R1.cell k c e).mono le
          obtain ⟨o, ho, _⟩ := (R1.cell k c e).some'
          exact c1.heap (by rw [ho, keep _ _ ho])
        · have hk' : k < g1.n := hk
          show (if g1.θ k = p ∨ g1.θ k ∈ ts then H' (g1.θ k) else g1.F (g1.θ k)) = none
          have : ¬ (g1.θ k = p ∨ g1.θ k ∈ ts) := by
            rintro (z | z)
            · exact R1.trk hk' (z ▸ hp)
            · exact R1.trk hk' (hts _ z)
          rw [if_neg this]; exact R1.fresh k hk'
      refine h1 _ g' H' ext rep ?_
      show Shr _ _ (.lst (itemsL kvs)) _
      simp only [Shr]
      refine ⟨p, ts.map V.ref, rfl, by show (if p = p ∨ p ∈ ts then H' p else g1.F p) = _; rw [if_pos (.inl rfl)]; exact hl1, ?_⟩
      have gen : ∀ (kvs : List (DKey × D)) (ws : List (Key × V)) (us : List Addr), (∀ t ∈ us, t ∈ ts) → ShrK C.K g1 kvs ws → Paired (fun (t : Addr) (q : Key × V) => H' t = some (.tup [kV q.1, q.2])) us ws → ShrL C.K g' (itemsL kvs) (us.map V.ref) := by
        intro kvs
        induction kvs with
        | nil =>
          intro ws us _ hk hpp
          simp only [ShrK] at hk
          subst hk
          cases hpp
          simp [itemsL, ShrL]
        | cons q kvs ih =>
          intro ws us hus hk hpp
          simp only [ShrK] at hk
          obtain ⟨v, r, rfl, s2, s3⟩ := hk
          cases hpp with
          | cons ht hr =>
            rename_i t us'
            simp only [itemsL, List.map_cons, ShrL]
            refine ⟨_, _, rfl, ?_, ih r us' (fun z hz => hus z (by simp [hz])) s3 hr⟩
            simp only [Shr]
            refine ⟨t, [kV (kD q.1), v], rfl, .inl (.inl ?_), ?_⟩
            · show (if t = p ∨ t ∈ ts then H' t else g1.F t) = _
              rw [if_pos (.inr (hus t (by simp)))]; exact ht
            · simp only [ShrL]
              refine ⟨_, _, rfl, ?_, _, _, rfl, Shr.mono le _ _ s2, rfl⟩
              cases q.1 with
              | inl i => rfl
              | inr x => rfl
      exact gen kvs ws ts (fun _ h => h) h3 hpair
    · exact h1.elim⟩
end
end Dn
set_option Elab.async false
set_option linter.all false
set_option maxRecDepth 100000
set_option maxHeartbeats 2000000
namespace Dn
open PySem PySem.Spec PyProof.Rows L2
section
variable {C : Ctx} {X : Cx} {W : WX} {o e f : Expr} {es : List Expr} {fe fo : DE0} {fas : Rho → Sto → Res (List D)} {apos cpos p pos c0 c1 : Pos} {j k : Nat}
/-! ### replace: a token must be out -/
structure DEt (C : Ctx) (X : Cx) (W : WX) (e : Expr) (f : DE0) : Prop where
  ex : ∃ te, PET X e te ∧ Sat C W te f
structure DAt' (C : Ctx) (X : Cx) (W : WX) (es : List Expr) (f : Rho → Sto → Res (List D)) : Prop where
  ex : ∃ te, PAT X es te ∧ Sat C W te f
theorem dt_of (h : DE C X W e fe) : DEt C X W e fe := let ⟨t, p, s⟩ := h.ex; ⟨t, CwR.PET.of p, s⟩
theorem at_nil : DAt' C X W [] nilA := let ⟨t, _, s⟩ := (a_nil (C := C) (X := X) (W := W)).ex; ⟨_, pat_nil, fun g σ H r O R S Q h => Post.fin R (by show ShrL _ _ [] []; simp [ShrL]) h⟩
theorem at_cons (ha : DEt C X W e fe) (hr : DAt' C X W es fas) (hs : starEach (e :: es) X.env = (false, eval e X.env) :: starEach es X.env := by rfl) : DAt' C X W (e :: es) (consA fe fas) :=
  let ⟨_, pa, sa⟩ := ha.ex; let ⟨_, pb, sb⟩ := hr.ex; ⟨_, pat_cons pa pb hs, fun g σ H r O R S Q h => sa.seq R S h fun d O1 v g1 H1 e1 R1 S1 s1 h1 =>
    sb.seq R1 S1 h1 fun ds O2 vs g2 H2 e2 R2 S2 s2 h2 => Post.fin R2 (by
      show ShrL _ _ (d :: ds) (v :: vs)
      simp only [ShrL]
      exact ⟨v, vs, rfl, s1.mono e2.le, s2⟩) h2⟩
/-- behind a written text a token is out -/
theorem pa_strT {x : Str} {ta : TA} (h : PAT X es ta) (hs : starEach (.Constant (.str x) j c0 :: es) X.env = (false, eval (.Constant (.str x) j c0) X.env) :: starEach es X.env := by rfl) : PA X (.Constant (.str x) j c0 :: es) (tCons (tC (.str x)) ta) := by
  refine ⟨fun pos pins s σ H Q I hq => ?_⟩
  rw [hs]
  show wpAny _ _ (spliced ((false, eval (.Constant (.str x) j c0) X.env) :: backTo pos (starEach es X.env))) _ _ s
  refine Calls.spliced_cons (Calls.Constant_str ?_)
  exact thn (h pos pins { s with toks := s.toks + 1 } σ H _ (by show 1 ≤ s.toks + 1; omega) (I.tok _) hq) fun us s2 ⟨xs, H2, I2, r2, q2⟩ => ⟨.str x :: xs, H2, I2, .cons ⟨_, rfl⟩ r2, q2⟩
theorem a_strT (l : List Nat) {x : Str} (hr : DAt' C X W es fas) (hx : x = ⟨l.toArray⟩ := by first | rfl | decide +kernel)
    (hs : starEach (.Constant (.str x) j c0 :: es) X.env = (false, eval (.Constant (.str x) j c0) X.env) :: starEach es X.env := by rfl) : DA C X W (.Constant (.str x) j c0 :: es) (consA (constE (.str l)) fas) := by
  subst hx
  obtain ⟨_, pb, sb⟩ := hr.ex
  have sa : Sat C W (tC (.str (mkS l))) (constE (.str l)) := sat_c fun _ => rfl
  exact ⟨_, pa_strT pb hs, fun g σ H r O R S Q h => sa.seq R S h fun d O1 v g1 H1 e1 R1 S1 s1 h1 =>
    sb.seq R1 S1 h1 fun ds O2 vs g2 H2 e2 R2 S2 s2 h2 => Post.fin R2 (by
      show ShrL _ _ (d :: ds) (v :: vs)
      simp only [ShrL]
      exact ⟨v, vs, rfl, s1.mono e2.le, s2⟩) h2⟩
def replL (x y z : List Nat) : List Nat := TL.tl (Txt.replace (mkS x) (mkS y) (mkS z))
theorem replL_len (x y z : List Nat) : (replL x y z).length ≤ x.length + (x.length + 1) * z.length := by
  have h := TK.replace_len (mkS x) (mkS y) (mkS z)
  rw [len_mkS, len_mkS] at h
  have e : (replL x y z).length = (Txt.replace (mkS x) (mkS y) (mkS z)).length := by
    unfold replL
    rw [← len_mkS, show mkS (TL.tl (Txt.replace (mkS x) (mkS y) (mkS z))) = Txt.replace (mkS x) (mkS y) (mkS z) from TL.ext_tl rfl]
  rw [e]; exact h
def replE (y z : List Nat) (fo : DE0) : DE0 := fun r O => (fo r O).bind fun d O1 => match d with | .str x => if x.length + (x.length + 1) * z.length ≤ 16777216 then .ok (.str (replL x y z)) O1 else .bad | _ => .bad
theorem sat_repl {to : TE} (y z : List Nat) (so : Sat C W to fo) : Sat C W (CwR.tReplC to (mkS y) (mkS z)) (replE y z fo) := fun g σ H r O R S Q h => so.seq R S h fun d O1 v g1 H1 e1 R1 S1 s1 h1 => by
  split at h1
  · rename_i x
    cases s1
    split at h1
    · rename_i hl
      refine ⟨mkS x, rfl, by rw [len_mkS, len_mkS]; exact hl, ?_⟩
      have e : Txt.replace (mkS x) (mkS y) (mkS z) = mkS (replL x y z) := TL.ext_tl rfl
      rw [e]
      exact Post.fin R1 rfl h1
    · exact h1.elim
  · exact h1.elim
theorem t_repl (y z : List Nat) {a b : Str} (ho : DE C X W o fo) (ha : a = ⟨y.toArray⟩ := by first | rfl | decide +kernel) (hb : b = ⟨z.toArray⟩ := by first | rfl | decide +kernel) (hyz : (a == b) = false := by decide)
    (hst : starEach [.Constant (.str a) j c0, .Constant (.str b) k c1] X.env = [(false, eval (.Constant (.str a) j c0) X.env), (false, eval (.Constant (.str b) k c1) X.env)] := by rfl)
    (hbase : attributeBase o "replace" X.env (eval o X.env) = eval o X.env := by rfl) (hline : (apos.endLine == pos.line) = true := by rfl) :
    DEt C X W (.Call (.Attribute o "replace" apos) [.Constant (.str a) j c0, .Constant (.str b) k c1] [] pos) (replE y z fo) := by
  subst ha hb
  obtain ⟨_, po, so⟩ := ho.ex
  exact ⟨_, CwR.pet_replC po hyz hst hbase hline, sat_repl y z so⟩
theorem t_replT (y z : List Nat) {a b : Str} (ho : DEt C X W o fo) (ha : a = ⟨y.toArray⟩ := by first | rfl | decide +kernel) (hb : b = ⟨z.toArray⟩ := by first | rfl | decide +kernel) (hyz : (a == b) = false := by decide)
    (hst : starEach [.Constant (.str a) j c0, .Constant (.str b) k c1] X.env = [(false, eval (.Constant (.str a) j c0) X.env), (false, eval (.Constant (.str b) k c1) X.env)] := by rfl)
    (hbase : attributeBase o "replace" X.env (eval o X.env) = eval o X.env := by rfl) (hline : (apos.endLine == pos.line) = true := by rfl) :
    DEt C X W (.Call (.Attribute o "replace" apos) [.Constant (.str a) j c0, .Constant (.str b) k c1] [] pos) (replE y z fo) := by
  subst ha hb
  obtain ⟨_, po, so⟩ := ho.ex
  exact ⟨_, CwR.pet_replT po hyz hst hbase hline, sat_repl y z so⟩
/-! ### statements behind a test against a written text -/
structure PTt (X : Cx) (e : Expr) (t : TT) : Prop where
  run : ∀ (pins : List (Addr × Obj)) (s : Shared) (σ : L2.St) (H : Hp) (Q : Bool → Hp → Prop), Inv X pins σ H s → t σ H Q → wpAny (model X.prog X.w) X.A (isTrue e X.env (eval e X.env)) (fun k s' => TP X pins σ Q k s' ∧ 1 ≤ s'.toks) X.xe s
theorem pt_cmpRT {a : Expr} {x : Str} {op : CmpOp} {r : R2} {ta : TE} (ho : OpR X (compareOp op) r) (ha : PE X a ta) (hm : behindInMarks op (.Constant (.str x) j c0) = false) : PTt X (.Compare a [op] [.Constant (.str x) j c0] pos) (tTest (tOp r ta (tC (.str x)))) := by
  refine ⟨fun pins s σ H Q I h => ?_⟩
  refine wpAny_isTrue_Compare1 (thn (ha.run pins s σ H _ I h) fun v s1 ⟨y, H1, I1, r1, q1⟩ => Calls.Constant_str ?_) hm
  refine wpAny_mono (PySem.wpAny_toks (ho pins { s1 with toks := s1.toks + 1 } σ H1 y (.str x) v (.str x s1.toks) _ (I1.tok _) r1 ⟨_, rfl⟩ q1)) (fun c s3 q => ?_) fun _ _ z => z.2
  obtain ⟨hk, z, H3, I3, r3, k, e, q3⟩ := q
  subst e
  cases r3
  exact wpAny_truthy_bool ⟨⟨H3, I3, q3⟩, by have : s1.toks + 1 ≤ s3.toks := hk; omega⟩
theorem ps_ifT {c : Expr} {a b : List Stmt} {tc : TT} {t u : TS} (hc : PTt X c tc) (ha : PSsT X a t) (hb : PSs X b u) : PS X (.If c a b pos) (tIfS tc t u) := by
  refine ⟨fun pins s σ H D I h => ?_⟩
  refine wpAny_If (thn (hc.run pins s σ H _ I h) fun d s1 ⟨⟨H1, I1, q1⟩, h0⟩ => ?_)
  cases d with
  | true => exact ha pins s1 σ H1 D h0 I1 q1
  | false => exact hb.run pins s1 σ H1 D I1 q1
theorem pst_set {i : Nat} {x : Str} {e : Expr} {te : TE} {pos' : Pos} (hN : X.N.Nodup) (hi : X.N[i]? = some x) (hx : Loc X.env.scope x) (he : PET X e te) (hs : swapsWith e (some (.Name x pos')) pos.line X.env = pure false) (hf : X.fn x = true ∨ X.env.scope.names.lookup x = some .local) :
    PST X (.Assign [.Name x pos'] e pos) (tAsg te (gName i)) := by
  intro pins s σ H D h0 I h
  refine wpAny_Assign_Name (thn (he pins s σ H _ h0 I h) fun v s1 ⟨y, H1, I1, r1, q1⟩ => ?_) hs
  exact store_ok I1 hN hi hx r1 (fun s2 I2 => ⟨_, H1, I2, q1⟩) hf
theorem psst_one' {st : Stmt} {t : TS} (h1 : PST X st t) : PSsT X [st] t := by
  intro pins s σ H D h0 I h
  refine wpAny_execs_cons (thn (h1 pins s σ H D h0 I h) fun f s1 q => ?_)
  cases f with
  | next => exact wpAny_execs_nil q
  | ret v => exact q
  | brk => exact q
  | cont => exact q
structure DTt (C : Ctx) (X : Cx) (W : WX) (e : Expr) (f : Rho → Sto → Res Bool) : Prop where
  ex : ∃ te, PTt X e te ∧ Sat C W te f
structure DSt' (C : Ctx) (X : Cx) (W : WX) (st : List Stmt) (f : DS0) : Prop where
  ex : ∃ t, PSsT X st t ∧ SatS C W t f
theorem tt_eq {a : Expr} {fa : DE0} (l : List Nat) {x : Str} (hK : X.K = C.K) (hu : X.A.units + 64 < cLine) (ha : DE C X W a fa) (hx : x = ⟨l.toArray⟩ := by first | rfl | decide +kernel) (hm : behindInMarks .Eq (.Constant (.str x) j c0) = false := by first | exact nomark _ | rfl) :
    DTt C X W (.Compare a [.Eq] [.Constant (.str x) j c0] pos) (cmpT eqD fa (constE (.str l))) := by
  subst hx
  obtain ⟨_, pa, sa⟩ := ha.ex
  exact ⟨_, pt_cmpRT (op_eqA hu) pa hm, sat_asB (sat_op (by rw [hK]; exact s_eq) sa (sat_c fun _ => rfl))⟩
theorem s_ifT {c : Expr} {xs ys : List Stmt} {ft : Rho → Sto → Res Bool} {f g : DS0} (hc : DTt C X W c ft) (ha : DSt' C X W xs f) (hb : DSs C X W ys g) : DS C X W (.If c xs ys pos) (ifS ft f g) :=
  let ⟨_, p, s⟩ := hc.ex; let ⟨_, q, t⟩ := ha.ex; let ⟨_, q', t'⟩ := hb.ex
  ⟨_, ps_ifT p q q', fun g σ H r O R S E h => s.seqS R S h fun k O1 k' g1 H1 e1 R1 S1 s1 h1 => by
    cases s1
    cases k with
    | true => rw [if_pos rfl]; exact t g1 σ H1 r O1 R1 S1 _ h1
    | false => rw [if_neg Bool.false_ne_true]; exact t' g1 σ H1 r O1 R1 S1 _ h1⟩
theorem st_set1 (i : Nat) {x : Str} {pos' : Pos} (hN : X.N.Nodup) (he : DEt C X W e fe) (hi : X.N[i]? = some x := by rfl) (hx : Loc X.env.scope x := by first | exact Or.inl rfl | exact Or.inr rfl) (hs : swapsWith e (some (.Name x pos')) pos.line X.env = pure false := by rfl)
    (hf : X.fn x = true ∨ X.env.scope.names.lookup x = some .local := by first | exact .inl rfl | exact .inr rfl | assumption) : DSt' C X W [.Assign [.Name x pos'] e pos] (setS i fe) :=
  let ⟨_, p, s⟩ := he.ex; ⟨_, psst_one' (pst_set hN hi hx p hs hf), fun g σ H r O R S E h => s.seqS R S h fun d O1 v g1 H1 e1 R1 S1 s1 h1 => h1 _ g1 H1 (Ext.refl R1) R1 (S1.set s1)⟩
theorem et_add (m : Bool) (hK : X.K = C.K) {a b : Expr} {fa fb : DE0} (ha : DEt C X W a fa) (hb : DEt C X W b fb) : DEt C X W (.BinOp a .Add b pos) (op2 (addD m) fa fb) := by
  obtain ⟨_, pa, sa⟩ := ha.ex
  obtain ⟨_, pb, sb⟩ := hb.ex
  exact ⟨_, CwR.pet_op (op_addD (X := X)) pa pb, sat_op (by rw [hK]; exact s_add m) sa sb⟩
end
end Dn
set_option Elab.async false
set_option linter.all false
set_option maxRecDepth 100000
set_option maxHeartbeats 2000000
namespace Dn
open PySem PySem.Spec PyProof.Rows L2
section
variable {C : Ctx} {X : Cx} {W : WX} {o e f a b : Expr} {es : List Expr} {fo fa fb : DE0} {fas : Rho → Sto → Res (List D)} {apos cpos p pos : Pos}
/-! ### xs.index(y), flat items -/
def idxL (y : D) : List D → Option Nat
  | [] => none
  | z :: zs => if eqv z y then some 0 else (idxL y zs).map (· + 1)
def indexF : D → List D → Sto → ER := fun d ds O => match ds with
  | [y] => (match listR d O with
    | some xs => if xs.all flatD && flatD y then (match idxL y xs with | some j => .ok (.int (j : Nat)) O | none => .bad) else .bad
    | none => .bad)
  | _ => .bad
theorem idx_of {K : PySem.W.Frag} {g : G} {y : D} {w : V} (sw : Shr K g y w) (hy : flatD y = true) : ∀ {xs : List D} {vs : List V} {j : Nat}, ShrL K g xs vs → xs.all flatD = true → idxL y xs = some j →
    vs.all flatV = true ∧ (∃ z, vs[j]? = some z ∧ eqV z w = true) ∧ ∀ (m : Nat) (z' : V), m < j → vs[m]? = some z' → eqV z' w = false
  | [], vs, j, _, _, e => by simp [idxL] at e
  | x :: xs, vs, j, s, hf, e => by
    simp only [ShrL] at s
    obtain ⟨v, r, rfl, h2, h3⟩ := s
    simp only [List.all_cons, Bool.and_eq_true] at hf
    have hfl := any_flat sw hy h3 hf.2
    have hv := flat_of h2 hf.1
    have he := eqv_flat h2 sw hf.1 hy
    unfold idxL at e
    split at e
    · rename_i q
      cases e
      exact ⟨by simp [hv, hfl.1], ⟨v, rfl, by rw [he]; exact q⟩, fun m z' h => absurd h (Nat.not_lt_zero _)⟩
    · rename_i q
      simp only [Option.map_eq_some_iff] at e
      obtain ⟨i, ei, rfl⟩ := e
      obtain ⟨i1, ⟨z, i2, i3⟩, i4⟩ := idx_of sw hy h3 hf.2 ei
      refine ⟨by simp [hv, i1], ⟨z, by simpa using i2, i3⟩, fun m z' h k => ?_⟩
      cases m with
      | zero => simp at k; subst k; rw [he]; simpa using q
      | succ m => exact i4 m z' (by omega) (by simpa using k)
theorem s_index : SatM C W (rIndex C.K) indexF := by
  intro g H O R d ds v vs s sl σ Q h
  unfold indexF at h
  split at h
  · rename_i y
    obtain ⟨w, rfl, sw⟩ := shrL_one sl
    split at h
    · rename_i xs ex
      split at h
      · rename_i hf
        simp only [Bool.and_eq_true] at hf
        split at h
        · rename_i j ej
          obtain ⟨a, ws, rfl, h1, h2⟩ := listR_of R s ex
          obtain ⟨i1, ⟨z, i2, i3⟩, i4⟩ := idx_of sw hf.2 h2 hf.1 ej
          exact ⟨a, ws, w, j, z, rfl, rfl, h1, flat_of sw hf.2, i1, i2, i3, i4, Post.fin R rfl h⟩
        · exact h.elim
      · exact h.elim
    · exact h.elim
  · exact h.elim
theorem e_index1 (hK : X.K = C.K) (ho : DE C X W o fo) (ha : DA C X W [e] fas)
    (hbase : attributeBase o "index" X.env (eval o X.env) = eval o X.env := by rfl)
    (hfew : ((backTo cpos (starEach [e] X.env)).all (fun x => !x.1) && (backToKw cpos (keywordEach [] X.env)).all (fun x => x.1.isSome)
      && decide ([e].length + ([] : List Keyword).length + (if ([] : List Keyword).isEmpty then 0 else 1) < 30)) = true := by rfl)
    (hline : (apos.endLine == cpos.line) = true := by rfl) (hs : starEach [e] X.env = (false, eval e X.env) :: starEach [] X.env := by rfl) (hplain : (backTo cpos (starEach [] X.env)).any (·.1) = false := by rfl) :
    DE C X W (.Call (.Attribute o "index" apos) [e] [] cpos) (bmE tyLst indexF fo fas) :=
  d_bm hK PySem.F.plainAttrs_list PySem.F.slot_list_index PySem.F.type_list_index mt_index (by rw [hK]; exact s_index) ty_lst ho ha hbase hfew hline hs hplain
end
end Dn
set_option Elab.async false
set_option linter.all false
set_option maxRecDepth 100000
set_option maxHeartbeats 2000000
namespace Dn
open PySem PySem.Spec PyProof.Rows L2
section
variable {C : Ctx} {X : Cx} {W : WX} {P : Program} {w : World} {K : PySem.W.Frag} {mg : Str → Option Value} {base : Heap}
/-! ### a def whose rows need a token: it is out when the body begins -/
structure DPT (C : Ctx) (X : Cx) (W : WX) (st : Stmt) (f : DS0) : Prop where
  ex : ∃ t, PST X st t ∧ SatS C W t f
theorem dp_ofS {st : Stmt} {f : DS0} (h : DS C X W st f) : DPT C X W st f := let ⟨t, p, s⟩ := h.ex; ⟨t, fun pins s σ H D _ I h => p.run pins s σ H D I h, s⟩
theorem sat_seq {t u : TS} {f g : DS0} (s : SatS C W t f) (s' : SatS C W u g) : SatS C W (tSeq t u) (consS f g) := fun g0 σ H r O R S E h => by
  refine s g0 σ H r O R S { E with nx := u E } ?_
  unfold consS at h
  cases q : f r O with
  | nx r1 O1 =>
    rw [q] at h
    exact fun σ' g' H' e R' S' => s' g' σ' H' r1 O1 R' S' E (PostS.shift e h)
  | bk r1 O1 => rw [q] at h; exact h
  | ct r1 O1 => rw [q] at h; exact h
  | ret d O1 => rw [q] at h; exact h
  | exc e r1 O1 => rw [q] at h; exact h
  | bad => rw [q] at h; exact h
theorem st_consT {st : Stmt} {rest : List Stmt} {f g : DS0} (h : DPT C X W st f) (k : DSt' C X W rest g) : DSt' C X W (st :: rest) (consS f g) :=
  let ⟨_, p, s⟩ := h.ex; let ⟨_, p', s'⟩ := k.ex; ⟨_, psst_cons p p', sat_seq s s'⟩
theorem st_of {st : List Stmt} {f : DS0} (h : DSs C X W st f) : DSt' C X W st f := let ⟨t, p, s⟩ := h.ex; ⟨t, fun pins s σ H D _ I h => p.run pins s σ H D I h, s⟩
theorem dp_set1 (i : Nat) {x : Str} {e : Expr} {fe : DE0} {pos pos' : Pos} (hN : X.N.Nodup) (he : DEt C X W e fe) (hi : X.N[i]? = some x := by rfl) (hx : Loc X.env.scope x := by first | exact Or.inl rfl | exact Or.inr rfl) (hs : swapsWith e (some (.Name x pos')) pos.line X.env = pure false := by rfl)
    (hf : X.fn x = true ∨ X.env.scope.names.lookup x = some .local := by first | exact .inl rfl | exact .inr rfl | assumption) : DPT C X W (.Assign [.Name x pos'] e pos) (setS i fe) :=
  let ⟨_, p, s⟩ := he.ex; ⟨_, pst_set hN hi hx p hs hf, fun g σ H r O R S E h => s.seqS R S h fun d O1 v g1 H1 e1 R1 S1 s1 h1 => h1 _ g1 H1 (Ext.refl R1) R1 (S1.set s1)⟩
theorem e_eqeq {a b c : Expr} {fa fb fc : DE0} {pos : Pos} (hK : X.K = C.K) (hu : X.A.units + 64 < cLine) (ha : DE C X W a fa) (hb : DE C X W b fb) (hc : DE C X W c fc) (hm : lastMarks [.Eq, .Eq] [b, c] = false := by with_unfolding_all rfl) :
    DE C X W (.Compare a [.Eq, .Eq] [b, c] pos) (chainE eqD eqD fa fb fc) := d_chain (op_eqA hu) (op_eqA hu) (by rw [hK]; exact s_eq) (by rw [hK]; exact s_eq) ha hb hc hm
theorem fn_okDT {x qual : Str} {st : Stmt} {f : Addr} {fd : FuncData} {N ps : List Str} {k : Nat} {B : DS0} (F : Fun K x qual st f fd) (S : FnScope N ps (defScope st)) (hnc : ∀ y ∈ (defScope st).names, y.2 ≠ .cell) (hps : 1 ≤ ps.length)
    (h : ∀ (cdv : Value) (A : Around) (outer : List Env) (s : Shared) (H : Hp) (E : XK), Room k (A.deeper (envOfC qual (defScope st) s.heap.objs.size f cdv)) →
      DSt' C (cxOf (L2.CX P w) P w K mg base N qual (defScope st) f cdv A outer s H E) (fun cv dx _ H' => E cv dx H') (defBody st) B) :
    FnOk P w K mg base (L2.CX P w) (k + 1) f fd ps (spD C ps.length (runFn N.length B)) := by
  obtain ⟨oc, od, kV, doc, pm, an, cdv, ct, osl, rfl, lk, hcd⟩ := F.ex
  refine fn_ofT lk hcd S hnc hps (fun vs H Q E h => ?_) (fun A outer s H vs Q E hr hsp => ?_)
  · obtain ⟨g, O, ds, h1, _, h2, _⟩ := h
    rw [shrL_len h2, h1]
  · obtain ⟨t, ht, hs⟩ := (h cdv A outer s H E hr).ex
    obtain ⟨g, O, ds, h1, R, s1, q⟩ := hsp
    refine ⟨t, ht, hs g _ H _ O R (rep_start s1) _ ?_⟩
    unfold runFn at q
    cases e : B (ds.map some ++ List.replicate (N.length - ds.length) none) O with
    | nx r O' => rw [e] at q; exact fun σ' g' H' e1 e2 e3 => q .non g' H' e1 e2 rfl
    | ret d O' => rw [e] at q; exact q
    | bk r O' => rw [e] at q; exact q.elim
    | ct r O' => rw [e] at q; exact q.elim
    | exc er r O' => rw [e] at q; exact fun cv dx σ' g' H' e1 e2 e3 e4 => q cv dx g' H' e1 e2 e4
    | bad => rw [e] at q; exact q
theorem GF.mkT {C : Ctx} {x : Str} {st : Stmt} {N ps : List Str} {k : Nat} {B : DS0} (R : RawF K mg x st ps) (S : FnScope N ps (defScope st)) (hnc : (defScope st).names.all (fun y => y.2 != .cell) = true) (hps : 1 ≤ ps.length)
    (h : ∀ (f : Addr) (cdv : Value) (A : Around) (outer : List Env) (s : Shared) (H : Hp) (E : XK), Room k (A.deeper (envOfC x (defScope st) s.heap.objs.size f cdv)) →
      DSt' C (cxOf (L2.CX P w) P w K mg base N x (defScope st) f cdv A outer s H E) (fun cv dx _ H' => E cv dx H') (defBody st) B) : GF P w K mg base C x (k + 1) ps.length (runFn N.length B) := by
  obtain ⟨f, fd, F, hm, hb⟩ := R.ex
  refine ⟨f, fd, ps, rfl, fn_okDT F S (fun y hy => ?_) hps (h f), hm, F.kp, hb⟩
  have := List.all_eq_true.mp hnc y hy
  simpa using this
end
end Dn
set_option Elab.async false
set_option linter.all false
set_option maxRecDepth 100000
set_option maxHeartbeats 2000000
/-! own errors with one field, «at» (after a worked example) -/
namespace PySem
namespace OwnX
open PySem.W PySem.Calls PyProof.Rows PySem.HandSPX
/-! ### the text of __init__ -/
def iA (p1 p2 : Pos) : Arguments := { posonlyargs := [], args := [{ arg := "self", annotation := none, pos := p1 }, { arg := "at", annotation := none, pos := p2 }], vararg := none, kwonlyargs := [], kw_defaults := [], kwarg := none, defaults := [] }
def iB (q1 q2 q3 q4 : Pos) : List Stmt := [.Assign [.Attribute (.Name "self" q1) "at" q2] (.Name "at" q3) q4]
def iS : Scope := { kind := .function, names := [(PySem.Str.ofString "self", .local), (PySem.Str.ofString "at", .local)], isGenerator := false, isCoroutine := false, more := [] }
/-- what the written part says of Low, at C, and of its __init__, at fI -/
structure OwnTxt (cn iq : Str) (K : Frag) (mg : Str → Option Value) (C fI : Addr) : Prop where
  gC : mg cn = some (.ref C)
  cls : ∃ nm q N bs bm sn sub ab col dd k0 k1 k2 k3 k5, K.lookup C = some (excClassObj nm q C N bs bm true sn sub ab col dd k0 k1 k2 k3 k5 "ValueError.__new__") ∧ refsVE bm = true
  sa : findIn K (.ref C) "__setattr__" = some (some (.builtin "object.__setattr__"))
  ga : findIn K (.ref C) "__getattribute__" = some (some (.builtin "BaseException.__getattribute__"))
  gg : findIn K (.ref C) "__getattr__" = some none
  noN : findIn K (.ref C) "at" = some none
  iC : findIn K (.ref C) "__init__" = some (some (.ref fI))
  tC : typeIn K (.ref fI) = some (.type "function")
  kC : keepIn K (.ref C) = true
  exC : subIn K (.ref C) (.type "BaseException") = some true
  tyC : typeIn K (.ref C) = some (.type "type")
  hdC : hasDictIn K C = true
  te : exmOne K (.ref C) (.ref C) = some true
  fn : ∃ (oc : Value) (od : Option Addr) (doc pm : Value) (an : Option Addr) (cdv ct : Value) (osl : Array (Option Value)) (p1 p2 q1 q2 q3 q4 : Pos),
    K.lookup fI = some ⟨oc, od, .func (fnOf "__init__" iq (iA p1 p2) (iB q1 q2 q3 q4) iS .none .none doc pm an cdv ct), osl⟩ ∧ codeIn K cdv iq = true
theorem one_size (v : Value) : [v].length ≤ sizeLine := by
  rw [sizeLine_eq]
  exact (by decide : 1 ≤ 16777216)
theorem kept_but {K : Frag} {h h' : Heap} {x : Addr} (X : K.In h) (hx : K.lookup x = none) (k : ∀ b o, b ≠ x → h.get? b = some o → h'.get? b = some o) : K.In h' := fun a o e =>
  k a o (fun z => by rw [z, hx] at e; cases e) (X a o e)
theorem ldC {M : Model} {s : Shared} {name : Str} {scope : Scope} {L a : Addr} {cd : Value} {m : Str → Option Value} {x : Str} {pos : Pos} {v : Value} {Q : Value → Shared → Prop} {A : Around} {E : Value → Shared → Prop} (hn : s.heap.Ns L m) (hv : m x = some v) (h : Q v s)
    (hk : scope.kind = .function := by rfl) (hl : (envOfC name scope L a cd).kindOf x = some .local := by rfl) (hd : (x == ("__debug__" : Str)) = false := by decide) :
    wpAny M A (eval (.Name x pos) (envOfC name scope L a cd)) Q E s := wpAny_Name (wpAny_loadName_local hk hl hn hv h) hd
/-- what __init__ leaves of a fresh exception at x -/
structure InitEnd (h h' : Heap) (x C dx t1 : Addr) (v : Value) : Prop where
  keep : ∀ b o, b ≠ x → h.get? b = some o → h'.get? b = some o
  obj : h'.get? x = some { cls := .ref C, dict := some dx, data := .fields #[.ref t1, .none, .none, .none, .bool false, .none] }
  dbig : h.objs.size ≤ dx
  dne : dx ≠ x
  ns : h'.Ns1 dx (fun y => if y = "at" then some v else none)
/-- a made Low -/
structure OwnMade (h h' : Heap) (e C d : Addr) (v : Value) : Prop where
  keep : ∀ b o, h.get? b = some o → h'.get? b = some o
  new : h.objs.size ≤ e
  obj : ∃ oe vs, h'.get? e = some oe ∧ oe.cls = .ref C ∧ oe.dict = some d ∧ oe.data = .fields vs ∧ vs[1]? = some .none
  dbig : h.objs.size ≤ d
  dne : d ≠ e
  ns : h'.Ns1 d (fun y => if y = "at" then some v else none)
section
variable {prog : Program} {w : World} {A : Around} {E : Value → Shared → Prop} {R : Result → Shared → Prop} {s : Shared} {K : Frag} {mg : Str → Option Value} {C fI : Addr} {cn iq : Str}
theorem low_init (T : OwnTxt cn iq K mg C fI) {x t0 : Addr} {v : Value} (X : K.In s.heap) (hlim : s.heap.NoLimit) (hx : s.heap.get? x = some (excO C t0)) (hnx : K.lookup x = none) (hroom : A.depth < recursionLimit)
    (hq : ∀ h' tk dx, InitEnd s.heap h' x C dx t0 v → R (.ok (.ret .none)) { s with heap := h', toks := tk }) :
    codeAny (model prog w) A (.call (.ref fI) ⟨[.ref x, v], []⟩) R s := by
  obtain ⟨oc, od, doc, pm, an, cdv, ct, osl, p1, p2, q1, q2, q3, q4, ho, hcd⟩ := T.fn
  obtain ⟨nm, q, N, bs, bm, sn, sub, ab, col, dd, k0, k1, k2, k3, k5, hC, hbm⟩ := T.cls
  have hcl : clsIn K C = some { name := nm, bases := bs, mro := .ref C :: bm, ns := N, qualname := q, hasDict := true, slotNames := sn, subclasses := sub, abstract := ab, collection := col, hasDel := false } := by unfold clsIn; rw [hC] <;> rfl
  refine Att.call_fn (binds := [("self", .ref x), ("at", v)]) X hlim ho hcd hroom (BindsTo.of_eq (by first | rfl | with_unfolding_all rfl)) (by first | rfl | decide | with_unfolding_all rfl) (fun s₁ IC => ?_) rfl rfl rfl
  obtain ⟨h₁, tk₁, rfl⟩ := IC.toInCall.same
  have k : ∀ b o, s.heap.get? b = some o → h₁.get? b = some o := IC.toInCall.keep
  have hn := IC.toInCall.ns
  have hxL : s.heap.objs.size ≠ x := Nat.ne_of_gt (Heap.lt_size hx)
  have X₁ : K.In h₁ := X.keeps k
  have hx₁ := k _ _ hx
  -- self.by = by
  show wpAny _ _ (execs _ _) _ _ _
  refine wpAny_execs_cons (plainObj_wpAny_Assign_Attribute ?_)
  refine ldC (v := v) hn (by first | rfl | with_unfolding_all rfl | kernel_rfl) (ldC (v := .ref x) hn (by first | rfl | with_unfolding_all rfl | kernel_rfl) ?_)
  refine set_plain X₁ (ox := excO C t0) (od := none) ⟨hx₁, rfl, rfl, trivial⟩ T.sa ?_
  refine exc_osa X₁ hx₁ hcl (show refsVE (.ref C :: bm) = true from hbm) rfl T.noN (fun h₃ tk₃ dx k₃ dn dne hx₃ hn₃ => ?_)
  show wpAny _ _ (execs _ _) _ _ _
  have z : s.heap.objs.size < h₁.objs.size := hn.lt
  exact wpAny_execs_nil (hq h₃ tk₃ dx ⟨fun b o hb e => k₃ b o hb (k b o e), hx₃, Nat.le_of_lt (Nat.lt_of_lt_of_le z dn), dne, hn₃⟩)
theorem low_made (T : OwnTxt cn iq K mg C fI) {v : Value} (X : K.In s.heap) (hlim : s.heap.NoLimit) (hroom : A.depth + 1 < recursionLimit)
    (hq : ∀ h' tk e d, OwnMade s.heap h' e C d v → R (.ok (.ret (.ref e))) { s with heap := h', toks := tk }) :
    codeAny (model prog w) A (.call (.ref C) ⟨[v], []⟩) R s := by
  obtain ⟨nm, q, N, bs, bm, sn, sub, ab, col, dd, k0, k1, k2, k3, k5, hC, hbm⟩ := T.cls
  obtain ⟨hp, g, dr, tk, os⟩ := s
  have k : ∀ b o, hp.get? b = some o → ((hp.push (kdv_tup [v])).push (excO C hp.objs.size)).get? b = some o := fun b o e => Heap.get?_push_of_some _ (Heap.get?_push_of_some _ e)
  have hget : ((hp.push (kdv_tup [v])).push (excO C hp.objs.size)).get? (hp.objs.size + 1) = some (excO C hp.objs.size) := by heap_get
  have hnx : K.lookup (hp.objs.size + 1) = none := by
    cases e : K.lookup (hp.objs.size + 1) with
    | none => rfl
    | some o =>
      have z : hp.get? (hp.objs.size + 1) = some o := X _ _ e
      exact absurd (Nat.lt_of_succ_lt (Heap.lt_size z)) (Nat.lt_irrefl _)
  refine call_own F.excBase_ValueError (fun X => refsVE_contains X bm hbm) (X _ _ hC) (looks_findIn X T.iC) (fun self => bind_fn X self T.tC) (one_size v) ?_
  refine low_init (s := ⟨(hp.push (kdv_tup [v])).push (excO C hp.objs.size), g, dr, tk, os⟩) T (X.keeps k) (hlim.keeps k) hget hnx ?_ fun h' tk' dx ⟨k', hx, dn, dne, hns⟩ => ?_
  · show A.depth + 1 < recursionLimit
    exact hroom
  · have old : ∀ b o, hp.get? b = some o → h'.get? b = some o := fun b o e => k' b o (Nat.ne_of_lt (Nat.lt_succ_of_lt (Heap.lt_size e))) (k b o e)
    have z : hp.objs.size + 1 + 1 ≤ dx := by
      first
        | (simpa only [Heap.size_push] using dn)
        | exact dn
        | (have q := dn; rw [Heap.size_push, Heap.size_push] at q; exact q)
    exact ⟨rfl, hq h' tk' (hp.objs.size + 1) dx ⟨old, Nat.le_succ _, ⟨_, _, hx, rfl, rfl, rfl, rfl⟩, Nat.le_trans (Nat.le_trans (Nat.le_succ _) (Nat.le_succ _)) z, dne, hns⟩⟩
end
end OwnX
end PySem
namespace L2
open PySem PySem.Spec PyProof.Rows
theorem relO_own {v : V} {v' : Value} (r : RelV v v') (f : Str) : RelO (List.lookup f [(("at" : Str), v)]) (if f = "at" then some v' else none) := by
  by_cases hw : f = "at"
  · subst hw
    rw [if_pos rfl]
    have q : List.lookup ("at" : Str) [(("at" : Str), v)] = some v := by simp [List.lookup]
    rw [q]
    exact r
  · rw [if_neg hw]
    have qw : (f == ("at" : Str)) = false := by simpa using hw
    have q2 : List.lookup f [(("at" : Str), v)] = none := by simp [List.lookup, qw]
    rw [q2]
    trivial
section
variable {X : Cx} {C fI : Addr} {cn iq : Str}
/-- Low(e) -/
def tMkOwn (C : Addr) (ta : TA) : St → Hp → XK → Prop := fun σ H Q => ta σ H fun vs H1 => ∃ v, vs = [v] ∧ ∀ d, H1 d = none → Q (.ref C) (some d) (upd H1 d (.xd [(("at" : Str), v)]))
theorem pmk_own1 {a : Expr} {ta : TA} {p pos : Pos} {k : Nat} (T : PySem.OwnX.OwnTxt cn iq X.K X.mg C fI) (hr : Room k X.A) (ha : PA X [a] ta) (hg : Gl X cn := by rfl)
    (he : starEach (a :: []) X.env = (false, eval a X.env) :: starEach [] X.env := by rfl) (hpl : (backTo pos (starEach [] X.env)).any (·.1) = false := by rfl) (hdb : (cn == ("__debug__" : Str)) = false := by decide) :
    PMk X (.Call (.Name cn p) [a] [] pos) (tMkOwn C ta) := by
  intro pins s σ H Q I h
  refine wpAny_Call_Name_kw (ld_glob I hg T.gC ?_ hdb)
  refine PySem.W.callWith_K (h₀ := X.base) I.ok.mod.kin T.kC (thn (ha.run pos pins s σ H _ I h) fun us s1 hh => ?_) he hpl
  obtain ⟨vs, H1, I1, r1, v, ev, q1⟩ := hh
  subst ev
  refine ⟨I1.kIn, ?_⟩
  cases r1 with
  | cons rv rn =>
    rename_i v' us'
    cases rn
    show wpAny _ _ (call (.ref C) [v']) _ _ _
    have hlim := I1.nolimit
    obtain ⟨hp, g, dr, tk, os⟩ := s1
    refine wpAny_call (PySem.OwnX.low_made T I1.kIn hlim (by have := hr.dp; omega) fun h' tk' e d M => ?_)
    show MkP X pins σ Q (.ref e) ⟨h', g, dr, tk', os⟩
    obtain ⟨oe, fv, hoe, hc, hd, hdat, h1⟩ := M.obj
    have hns := M.ns
    obtain ⟨G', g1, g2⟩ := restrict h' fun b => decide (b ≠ e)
    have gk : ∀ b, b ≠ e → G'.get? b = h'.get? b := fun b hb => g1 b (decide_eq_true hb)
    have ge : G'.get? e = none := g2 e (by simp)
    have old : ∀ b o, hp.get? b = some o → G'.get? b = some o := fun b o q => (gk b (Nat.ne_of_lt (Nat.lt_of_lt_of_le (Heap.lt_size q) M.new))).trans (M.keep b o q)
    have ob : ObjOk X.prog X.w (upd H1 d (.xd [(("at" : Str), v)])) G' d (.xd [(("at" : Str), v)]) :=
      ⟨_, hns.at (fun o q => (gk d M.dne).trans q), fun f => relO_own rv f⟩
    have J : Inv X pins σ (upd H1 d (.xd [(("at" : Str), v)])) ⟨G', g, dr, tk', os⟩ := I1.laid (t' := tk') old M.dbig ob
    refine ⟨e, oe, fv, ⟨G', g, dr, tk', os⟩, _, .ref C, some d, rfl, J, fun b o q => ?_, ge, hoe, ⟨hc, hd⟩, hdat, h1, ?_, rfl, I1.bare, raises_own T.exC T.tyC, q1 d (I1.hok.fresh M.dbig)⟩
    · by_cases hb : b = e
      · have q' : G'.get? b = some o := q
        rw [hb, ge] at q'; cases q'
      · exact (gk b hb).symm.trans q
    · rw [upd_ne (Ne.symm M.dne)]
      exact I1.hok.fresh M.new
/-- raise Low(e) -/
def tRaiseOwn (C : Addr) (W : WX) (ta : TA) : TS := fun _ σ H => tMkOwn C ta σ H fun cls d H' => W cls d σ H'
theorem ps_raiseOwn {a : Expr} {ta : TA} {W : WX} {p pos pos2 : Pos} {k : Nat} (hc : X.calm = true) (T : PySem.OwnX.OwnTxt cn iq X.K X.mg C fI) (hr : Room k X.A) (tk : Takes X W) (ha : PA X [a] ta) (hg : Gl X cn := by rfl)
    (he : starEach (a :: []) X.env = (false, eval a X.env) :: starEach [] X.env := by rfl) (hpl : (backTo pos (starEach [] X.env)).any (·.1) = false := by rfl) (hdb : (cn == ("__debug__" : Str)) = false := by decide) :
    PS X (.Raise (some (.Call (.Name cn p) [a] [] pos)) none pos2) (tRaiseOwn C W ta) := ps_raise hc tk (pmk_own1 T hr ha hg he hpl hdb)
/-- low.by, low the exception that the suite holds (at a; its class cls, its dict d) -/
def tAtOwn (C : Addr) (a : Addr) (cls : Value) (d : Option Addr) (te : TE) : TE := fun σ H Q => te σ H fun x H1 => x = .ref a ∧ cls = .ref C ∧ ∃ (dd : Addr) (v : V), d = some dd ∧ H1 dd = some (.xd [(("at" : Str), v)]) ∧ Q v H1
theorem pe_atOwn {a : Addr} {oe : Obj} {cls : Value} {d : Option Addr} {pn : List (Addr × Obj)} {e : Expr} {te : TE} {pos : Pos} (T : PySem.OwnX.OwnTxt cn iq X.K X.mg C fI) (hz : Zc cls d oe) (hf : ∃ vs, oe.data = .fields vs) (he : PE (X.suite a ((a, oe) :: pn)) e te)
    (hb : attributeBase e "at" X.env (eval e X.env) = eval e X.env := by rfl) :
    PE (X.suite a ((a, oe) :: pn)) (.Attribute e "at" pos) (tAtOwn C a cls d te) := by
  refine ⟨fun pins s σ H Q I h => ?_⟩
  refine attr_of hb (thn (he.run pins s σ H _ I h) fun u s1 hh => ?_)
  obtain ⟨x, H1, I1, rx, ex, ec, dd, v, ed, ea, q⟩ := hh
  subst ex
  obtain rfl : u = Value.ref a := rx
  subst ec
  subst ed
  obtain ⟨ha, _⟩ := I1.pin (a, oe) (List.mem_append_left _ List.mem_cons_self)
  obtain ⟨vs, hd⟩ := hf
  have hx : ObjOk X.prog X.w H1 s1.heap dd (.xd [(("at" : Str), v)]) := I1.hok dd _ ea
  obtain ⟨mA, hns, hr⟩ := hx
  obtain ⟨od, ho, hl⟩ := lookIn_ns hns
  have l : List.lookup ("at" : Str) [(("at" : Str), v)] = some v := by simp [List.lookup]
  obtain ⟨u, hu, ru⟩ := RelO.some_of (v := v) (o := mA "at") (by rw [← l]; exact hr "at")
  have J : PySem.W.InstAt s1.heap a oe C (some od) := ⟨ha, hz.1, by unfold PySem.W.notCls; rw [hd] <;> rfl, by rw [hz.2]; exact ho⟩
  exact HandSPX.exc_get I1.kIn J T.ga T.gg T.exC (PySem.W.findObj_own T.hdC T.noN rfl (by rw [hl, hu])) (handed_of ru) ⟨v, H1, I1.tok _, ru, q⟩
end
end L2
namespace Dn
open PySem PySem.Spec PyProof.Rows L2
section
variable {C : Ctx} {X : Cx} {W : WX} {A fI : Addr} {cn iq : Str} {p pos pos' pos2 : Pos}
/-! ### raise X(e), an own error with the field «at» -/
def raiseS1 (i n : Nat) (fas : Rho → Sto → Res (List D)) : DS0 := fun r O => (fas r O).bindS r fun ds O1 => match ds with | [d] => .exc ⟨i, [(n, d)]⟩ r O1 | _ => .bad
theorem s_raise1 (i n : Nat) {a : Expr} {k : Nat} {fas : Rho → Sto → Res (List D)} (hc : X.calm = true) (tk : Takes X W) (hK : X.K = C.K) (he : C.ec i = some A) (hn : C.fn n = "at") (hnN : n < C.fN) (T : PySem.OwnX.OwnTxt cn iq C.K X.mg A fI) (hr : Room k X.A) (ha : DA C X W [a] fas) (hg : Gl X cn := by rfl)
    (hst : starEach (a :: []) X.env = (false, eval a X.env) :: starEach [] X.env := by rfl) (hpl : (backTo pos (starEach [] X.env)).any (·.1) = false := by rfl) (hdb : (cn == ("__debug__" : Str)) = false := by decide) :
    DS C X W (.Raise (some (.Call (.Name cn p) [a] [] pos)) none pos2) (raiseS1 i n fas) := by
  obtain ⟨_, pa, sa⟩ := ha.ex
  refine ⟨_, ps_raiseOwn hc (hK ▸ T) hr tk pa hg hst hpl hdb, fun g σ H r O R S E h => ?_⟩
  refine sa.seqS R S h fun ds O1 vs g1 H1 e1 R1 S1 s1 h1 => ?_
  split at h1
  · rename_i d
    obtain ⟨v, rfl, sv⟩ := shrL_one s1
    refine ⟨v, rfl, fun q hq => ?_⟩
    refine h1 _ _ _ (g1.frz q (.xd [(("at" : Str), v)])) _ (Ext.freeze R1 hq) (R1.frz hq) (S1.mono (GLe.frz (R1.Fnone hq))) ?_
    refine ⟨A, he, rfl, .inr ⟨q, _, rfl, by simp, upd_same, ?_⟩⟩
    exact ⟨v, [], by rw [hn], hnN, sv.mono (GLe.frz (R1.Fnone hq)), rfl⟩
  · exact h1.elim
/-! ### try: .. except X as e: x = ("..", e.at) -/
theorem RepS.over {g : G} {σ : L2.St} {r : Rho} {i : Nat} {v : Option V} (R : RepS C g σ r) : RepS C g (σ.set i v) (r.set i none) := by
  refine ⟨by simp [R.len], fun j d h => ?_⟩
  by_cases q : i = j
  · subst q
    rw [List.getElem?_set] at h
    split at h
    · split at h <;> cases h
    · exact absurd rfl (by assumption)
  · rw [List.getElem?_set_ne q] at h ⊢
    exact R.at' j d h
def tryAsS (i n slot : Nat) (f : DS0) (h : D → DS0) : DS0 := fun r O => match f r O with
  | .exc e r1 O1 => if e.cls = i then (match e.fs with
    | [(m, d)] => if m = n ∧ slot < r1.length then (match h d (r1.set slot none) O1 with | .nx r2 O2 => .nx (r2.set slot none) O2 | _ => .bad) else .bad
    | _ => .bad) else .exc e r1 O1
  | y => y
theorem s_tryAs (i n slot : Nat) {c : Value} {x en : Str} {np : Pos} {b₀ : Stmt} {body suite : List Stmt} {f : DS0} {h : D → DS0} {ts : Addr → Value → Option Addr → TS} (hs : X.stack = X.env :: X.outer) (hf : X.env.frame = some X.env.locals) (hN : X.N.Nodup) (hK : X.K = C.K) (hc : Names X x c) (tk : Takes X W)
    (he : C.ec i = some A) (hn : C.fn n = "at") (hm : ∀ j A', C.ec j = some A' → PySem.W.exmOne C.K (.ref A') c = some (decide (j = i)))
    (hb : ∀ (W' : WX) (pn : List (Addr × Obj)) (xe : Value → Shared → Prop), Takes (X.tr pn xe) W' → PassesOwn (model X.prog X.w) X.A X.env xe → DSs C (X.tr pn xe) W' body f)
    (hsu : ∀ (a : Addr) (oe : Obj) (cls : Value) (d : Option Addr) (pn : List (Addr × Obj)), Zc cls d oe → (∃ vs, oe.data = .fields vs) → PSs (X.suite a ((a, oe) :: pn)) (b₀ :: suite) (ts a cls d))
    (hst : ∀ (a dd : Addr) (g : G) (σ : L2.St) (H : Hp) (r : Rho) (O : Sto) (d : D) (v : V), RepO C g H O → RepS C g σ r → σ[slot]? = some (some (.ref a)) → H dd = some (.xd [(("at" : Str), v)]) → Shr C.K g d v → ∀ E, PostS C noW g H (h d r O) E → ts a (.ref A) (some dd) E σ H)
    (hi : X.N[slot]? = some en := by rfl) (hln : X.env.kindOf en = some .local := by rfl) :
    DS C X W (.Try body [.ExceptHandler (some (.Name x np)) (some en) (b₀ :: suite) pos'] [] [] pos) (tryAsS i n slot f h) :=
  ⟨_, ps_try_as (i := slot) (tb := fun W' => tOf C W' f) (ts := ts) (Wout := W) hs hf hN hi hln hc tk (fun W' pn xe t p => pss_of (hb W' pn xe t p)) hsu, fun g σ H r O R S E q => by
    refine ⟨g, r, O, R, S, ?_⟩
    unfold tryAsS at q
    cases z : f r O with
    | nx r1 O1 => rw [z] at q; exact q
    | ret d O1 => rw [z] at q; exact q
    | bk r1 O1 => rw [z] at q; exact q
    | ct r1 O1 => rw [z] at q; exact q
    | bad => rw [z] at q; exact q
    | exc e r1 O1 =>
      rw [z] at q
      intro cv dx σ' g' H' ex R' S' er
      obtain ⟨A', h1, rfl, h3⟩ := er
      refine ⟨decide (e.cls = i), by rw [hK]; exact hm _ _ h1, fun hb a _ => ?_, fun hb => ?_⟩
      · simp only [decide_eq_true_eq] at hb
        dsimp only at q
        rw [if_pos hb] at q
        have hA : A' = A := by
          rw [hb, he] at h1
          cases h1; rfl
        subst hA
        split at q
        · rename_i m d efs
          split at q
          · rename_i hml
            obtain ⟨rfl, hlt⟩ := hml
            rw [efs] at h3
            obtain ⟨dd, vs, rfl, hx, hsf⟩ : ∃ dd vs, dx = some dd ∧ H' dd = some (.xd vs) ∧ ShrF C g' [(m, d)] vs := by
              rcases h3 with ⟨h3, _⟩ | ⟨dd, vs, h4, _, h5, h6⟩
              · cases h3
              · exact ⟨dd, vs, h4, h5, h6⟩
            obtain ⟨v, r', rfl, _, sv, hr'⟩ := hsf
            have hr0 : r' = [] := hr'
            subst hr0
            have hn' : C.fn m = "at" := hn
            rw [show C.fn (m, d).1 = "at" from hn'] at hx
            refine hst a dd g' _ H' (r1.set slot none) O1 d v R' S'.over (by rw [List.getElem?_set_self (by rw [S'.len]; exact hlt)]) hx sv _ ?_
            split at q
            · rename_i r2 O2 eh
              rw [eh]
              exact fun σ'' g'' H'' e'' R'' S'' => q _ g'' H'' (ex.trans e'') R'' S''.unset2
            · exact q.elim
          · exact q.elim
        · exact q.elim
      · simp only [decide_eq_false_iff_not] at hb
        dsimp only at q
        rw [if_neg hb] at q
        exact q _ _ _ _ _ ex R' S' ⟨A', h1, rfl, h3⟩⟩
/-- the suite x = ("..", e.at) -/
def badT (j : Nat) (l : List Nat) : D → DS0 := fun d => setS j (tupE (consA (constE (.str l)) (consA (constE d) nilA)))
theorem s_tryAsT (i n slot j : Nat) (l : List Nat) {c : Value} {x en y bd : Str} {np ep apos cp tpos py spos : Pos} {kk tk2 : Nat} {body : List Stmt} {f : DS0} (hs : X.stack = X.env :: X.outer) (hf : X.env.frame = some X.env.locals) (hN : X.N.Nodup) (hK : X.K = C.K) (hc : Names X x c) (tk : Takes X W)
    (he : C.ec i = some A) (hn : C.fn n = "at") (hm : ∀ j A', C.ec j = some A' → PySem.W.exmOne C.K (.ref A') c = some (decide (j = i))) (T : PySem.OwnX.OwnTxt cn iq C.K X.mg A fI)
    (hb : ∀ (W' : WX) (pn : List (Addr × Obj)) (xe : Value → Shared → Prop), Takes (X.tr pn xe) W' → PassesOwn (model X.prog X.w) X.A X.env xe → DSs C (X.tr pn xe) W' body f)
    (hbd : bd = ⟨l.toArray⟩) (hv : ∀ (a : Addr) (pn : List (Addr × Obj)), PE (X.suite a pn) (.Name en ep) (tVar slot))
    (hset : ∀ (a : Addr) (pn : List (Addr × Obj)) (te : TE), PE (X.suite a pn) (.Tuple [.Constant (.str bd) kk cp, .Attribute (.Name en ep) "at" apos] tk2 tpos) te → PS (X.suite a pn) (.Assign [.Name y py] (.Tuple [.Constant (.str bd) kk cp, .Attribute (.Name en ep) "at" apos] tk2 tpos) spos) (tAsg te (gName j)))
    (hbase : attributeBase (.Name en ep) "at" X.env (eval (.Name en ep) X.env) = eval (.Name en ep) X.env := by rfl)
    (hs1 : starEach [.Constant (.str bd) kk cp, .Attribute (.Name en ep) "at" apos] X.env = (false, eval (.Constant (.str bd) kk cp) X.env) :: starEach [.Attribute (.Name en ep) "at" apos] X.env := by rfl)
    (hs2 : starEach [.Attribute (.Name en ep) "at" apos] X.env = (false, eval (.Attribute (.Name en ep) "at" apos) X.env) :: starEach [] X.env := by rfl)
    (hi : X.N[slot]? = some en := by rfl) (hln : X.env.kindOf en = some .local := by rfl) :
    DS C X W (.Try body [.ExceptHandler (some (.Name x np)) (some en) [.Assign [.Name y py] (.Tuple [.Constant (.str bd) kk cp, .Attribute (.Name en ep) "at" apos] tk2 tpos) spos] pos'] [] [] pos) (tryAsS i n slot f (badT j l)) := by
  subst hbd
  refine s_tryAs (A := A) (ts := fun a cls d => tAsg (tTup (tCons (tC (.str ⟨l.toArray⟩)) (tCons (tAtOwn A a cls d (tVar slot)) tNil))) (gName j)) i n slot hs hf hN hK hc tk he hn hm hb (fun a oe cls d pn hz hff => ?_) (fun a dd g σ H r O d v R S h1 h2 sv E q => ?_) hi hln
  · exact pss_one (hset a _ _ (pe_tup (pa_cons pe_str (pa_cons (pe_atOwn (hK ▸ T) hz hff (hv a _) hbase) pa_nil hs2) hs1)))
  · refine ⟨.ref a, h1, rfl, rfl, dd, v, rfl, h2, by show 2 ≤ sizeLine; rw [show sizeLine = 16777216 from by decide]; omega, fun p hp => ?_⟩
    have hq : badT j l d r O = .nx (r.set j (some (.tup [.str l, d]))) O := by
      have hz : (2 : Nat) ≤ sizeLine := by rw [show sizeLine = 16777216 from by decide]; omega
      show ((if ([D.str l, d] : List D).length ≤ sizeLine then Res.ok (D.tup [D.str l, d]) O else Res.bad : ER).bindS r fun d O1 => SR.nx (r.set j (some d)) O1) = _
      rw [if_pos (by exact hz)]; rfl
    rw [hq] at q
    have le := GLe.frz (g := g) (o := .tup [.str ⟨l.toArray⟩, v]) (R.Fnone hp)
    refine q _ (g.frz p (.tup [.str ⟨l.toArray⟩, v])) _ (Ext.freeze R hp) (R.frz hp) ((S.mono le).set ?_)
    show Shr _ _ (.tup [.str l, d]) _
    simp only [Shr, ShrL]
    exact ⟨p, [.str ⟨l.toArray⟩, v], rfl, SqT.of upd_same, _, [v], rfl, rfl, v, [], rfl, sv.mono le, rfl⟩
end
end Dn
set_option Elab.async false
set_option linter.all false
set_option maxRecDepth 100000
set_option maxHeartbeats 4000000
/-! for a, b in d.items(): the dict is locked while it is walked -/
namespace Dn
open PySem PySem.Spec PyProof.Rows L2
section
variable {C : Ctx} {X : Cx} {W : WX} {o e f x : Expr} {fo : DE0} {p apos cpos pos pos' : Pos}
open Classical in
noncomputable def forKL (t : TG0) (b : DS0) (l : Nat) (c : Cell) : List D → Rho → Sto → SR
  | [], r, O => if O[l]? = some c then .nx r O else .bad
  | d :: ds, r, O => if O[l]? = some c then (match t d r O with
      | none => .bad
      | some (r1, O1) => match b r1 O1 with
        | .nx r2 O2 => forKL t b l c ds r2 O2 | .ct r2 O2 => forKL t b l c ds r2 O2 | .bk r2 O2 => .nx r2 O2 | .ret d O2 => .ret d O2 | .exc e r2 O2 => .exc e r2 O2 | .bad => .bad) else .bad
open Classical in
noncomputable def openS (l : Nat) (c : Cell) (kvs : List (DKey × D)) : SR → SR
  | .nx r O => if O[l]? = some c then .nx r (O.set l (.dic kvs)) else .bad
  | .ct r O => if O[l]? = some c then .ct r (O.set l (.dic kvs)) else .bad
  | .bk r O => if O[l]? = some c then .bk r (O.set l (.dic kvs)) else .bad
  | .ret d O => if O[l]? = some c then .ret d (O.set l (.dic kvs)) else .bad
  | _ => .bad
open Classical in
noncomputable def itK (t : TG0) (b : DS0) (l : Nat) (c : Cell) (kvs : List (DKey × D)) (r : Rho) : D → Sto → SR := fun d O1 => match d with
  | .ob l' => if l' = l ∧ O1[l]? = some c then forKL t b l c (itemsL kvs) r O1 else .bad
  | _ => .bad
noncomputable def itR (fo : DE0) (t : TG0) (b : DS0) (l : Nat) (kvs : List (DKey × D)) (r : Rho) (O : Sto) (u : HO) : SR :=
  openS l (.loc u kvs) kvs ((fo r (O.set l (.loc u kvs))).bindS r (itK t b l (.loc u kvs) kvs r))
open Classical in
noncomputable def forItS (fo : DE0) (t : TG0) (b : DS0) : DS0 := fun r O => match fo r O with
  | .ok (.ob l) _ => match O[l]? with
    | some (.dic kvs) => if h : ∃ x, ∀ u, itR fo t b l kvs r O u = x then h.choose else .bad
    | _ => .bad
  | _ => .bad
theorem forItS_eq {fo : DE0} {t : TG0} {b : DS0} {r : Rho} {O O' : Sto} {l : Nat} {kvs : List (DKey × D)} {x : SR} (h1 : fo r O = .ok (.ob l) O') (h2 : O[l]? = some (.dic kvs)) (h3 : ∀ u, itR fo t b l kvs r O u = x) : forItS fo t b r O = x := by
  unfold forItS
  rw [h1]
  simp only [h2]
  have h : ∃ x, ∀ u, itR fo t b l kvs r O u = x := ⟨x, h3⟩
  rw [dif_pos h]
  rw [← h.choose_spec (.own 0), h3]
/-- the ends seen from inside -/
def lockD (d : Addr) (fz u : HO) (D : Ends) : Ends := ⟨fun σ' H' => H' d = some fz ∧ D.nx σ' (upd H' d u), fun v H' => H' d = some fz ∧ D.rt v (upd H' d u), fun σ' H' => H' d = some fz ∧ D.bk σ' (upd H' d u), fun σ' H' => H' d = some fz ∧ D.ct σ' (upd H' d u)⟩
theorem open_post {g0 : G} {H0 : Hp} {O0 : Sto} {l : Nat} {od : Obj} {vs : List (Key × V)} {kvs : List (DKey × D)} (R0 : RepO C g0 H0 O0) (hl : l < g0.n) (hd : H0 (g0.θ l) = some (.dK vs)) (sk : ShrK C.K g0 kvs vs) {x : SR} {E : Ends}
    (h : PostS C W g0 H0 (openS l (.loc (.frz od (.dK vs)) kvs) kvs x) E) : PostS C W g0 (upd H0 (g0.θ l) (.frz od (.dK vs))) x (lockD (g0.θ l) (.frz od (.dK vs)) (.dK vs) E) := by
  have core : ∀ {g' : G} {H' : Hp} {O : Sto}, Ext g0 (upd H0 (g0.θ l) (.frz od (.dK vs))) g' H' → RepO C g' H' O → O[l]? = some (.loc (.frz od (.dK vs)) kvs) →
      H' (g0.θ l) = some (.frz od (.dK vs)) ∧ Ext g0 H0 g' (upd H' (g0.θ l) (.dK vs)) ∧ RepO C g' (upd H' (g0.θ l) (.dK vs)) (O.set l (.dic kvs)) := by
    intro g' H' O ex R' hO
    have e1 : g'.θ l = g0.θ l := ex.le.θ l hl
    obtain ⟨c1, _⟩ := R'.cell l _ hO
    rw [e1] at c1
    have hl' : l < g'.n := Nat.lt_of_lt_of_le hl ex.le.n
    refine ⟨c1, ⟨ex.le, fun a o q n => ?_, fun k a b => ?_, fun k hk => ?_, fun a o q => ?_⟩, ?_⟩
    · have : a ≠ g0.θ l := fun z => n l hl z.symm
      rw [upd_ne this]
      exact ex.keep a o (by rw [upd_ne this]; exact q) n
    · have q := ex.new k a b
      have : g'.θ k ≠ g0.θ l := fun z => by rw [z, upd_same] at q; cases q
      rw [upd_ne this] at q; exact q
    · by_cases q : g0.θ k = g0.θ l
      · rw [q, upd_same]; exact fun z => nomatch z
      · rw [upd_ne q]; exact ex.trk k hk
    · rcases ex.frz a o q with z | z
      · exact .inl z
      · have : a ≠ g0.θ l := fun y => by rw [y, upd_same] at z; cases z
        rw [upd_ne this] at z; exact .inr z
    · rw [← e1]
      exact R'.set hl' ⟨vs, upd_same, sk.mono ex.le⟩
  cases x with
  | nx r O =>
    simp only [openS] at h
    split at h
    · rename_i hO
      intro σ' g' H' ex R' S'
      obtain ⟨c1, c2, c3⟩ := core ex R' hO
      exact ⟨c1, h σ' g' _ c2 c3 S'⟩
    · exact h.elim
  | ct r O =>
    simp only [openS] at h
    split at h
    · rename_i hO
      intro σ' g' H' ex R' S'
      obtain ⟨c1, c2, c3⟩ := core ex R' hO
      exact ⟨c1, h σ' g' _ c2 c3 S'⟩
    · exact h.elim
  | bk r O =>
    simp only [openS] at h
    split at h
    · rename_i hO
      intro σ' g' H' ex R' S'
      obtain ⟨c1, c2, c3⟩ := core ex R' hO
      exact ⟨c1, h σ' g' _ c2 c3 S'⟩
    · exact h.elim
  | ret d O =>
    simp only [openS] at h
    split at h
    · rename_i hO
      intro v g' H' ex R' S'
      obtain ⟨c1, c2, c3⟩ := core ex R' hO
      exact ⟨c1, h v g' _ c2 c3 S'⟩
    · exact h.elim
  | exc e r O => exact h.elim
  | bad => exact h.elim
theorem shrK_at {K : PySem.W.Frag} {g : G} : ∀ {kvs : List (DKey × D)} {vs : List (Key × V)} {i : Nat} {d : D} {k : Key} {v : V}, ShrK K g kvs vs → (itemsL kvs)[i]? = some d → vs[i]? = some (k, v) → ∃ q : DKey × D, d = .tup [keyB q.1, q.2] ∧ k = kD q.1 ∧ Shr K g q.2 v
  | [], vs, i, d, k, v, h, h1, h2 => by simp [itemsL] at h1
  | p :: kvs, vs, 0, d, k, v, h, h1, h2 => by
    simp only [ShrK] at h
    obtain ⟨v', r, rfl, s2, h3⟩ := h
    simp [itemsL] at h1 h2
    obtain ⟨rfl, rfl⟩ := h2
    exact ⟨p, h1.symm, rfl, s2⟩
  | p :: kvs, vs, i + 1, d, k, v, h, h1, h2 => by
    simp only [ShrK] at h
    obtain ⟨v', r, rfl, s2, h3⟩ := h
    exact shrK_at (i := i) h3 (by simpa [itemsL] using h1) (by simpa using h2)
theorem s_forIt {elts : List Expr} {kk : Nat} {tpos : Pos} {body : List Stmt} {f : DS0} {own : List Nat} {t : TG0} (hp : PassesOwn (model X.prog X.w) X.A X.env X.xe) (hc : X.calm = true) (ho : DE C X W o fo) (hg : DG C X (.Tuple elts kk tpos) own t) (hb : DSs C X W body f)
    (hbase : attributeBase o "items" X.env (eval o X.env) = eval o X.env := by rfl) (hline : (apos.endLine == cpos.line) = true := by rfl)
    (hs : ∀ x, foldedSetIterable (.Call (.Attribute o "items" apos) [] [] cpos) X.env x = pure x := by intro _; rfl) :
    DS C X W (.For (.Tuple elts kk tpos) (.Call (.Attribute o "items" apos) [] [] cpos) body [] pos) (forItS fo t f) :=
  let ⟨_, po, so⟩ := ho.ex; let ⟨_, q, u⟩ := hg.ex; let ⟨_, pb, sb⟩ := hb.ex
  ⟨_, ps_lock (ps_for hp hc (pi_items po hbase hline) q pb (hs := hs)), fun g0 σ0 H0 r0 O0 R0 S0 E h0 => by
    unfold forItS at h0
    split at h0
    · rename_i l _ _
      split at h0
      · rename_i kvs hcell
        split at h0
        · rename_i hx
          have hl : l < g0.n := by rw [R0.n]; exact (List.getElem?_eq_some_iff.mp hcell).1
          obtain ⟨vs, hd, sk⟩ := R0.cell l _ hcell
          refine ⟨g0.θ l, .dK vs, hd, trivial, fun od => ?_⟩
          have h1 : PostS C W g0 H0 (itR fo t f l kvs r0 O0 (.frz od (.dK vs))) E := by rw [hx.choose_spec]; exact h0
          unfold itR at h1
          have h2 := open_post R0 hl hd sk h1
          have RL : RepO C g0 (upd H0 (g0.θ l) (.frz od (.dK vs))) (O0.set l (.loc (.frz od (.dK vs)) kvs)) := R0.set hl ⟨upd_same, od, vs, rfl, sk⟩
          show iItems _ σ0 _ _
          refine so.seqS RL S0 h2 fun d O1 v g1 H1 e1 R1 S1 s1 h3 => ?_
          unfold itK at h3
          split at h3
          · rename_i l'
            split at h3
            · rename_i hh
              obtain ⟨rfl, hO1⟩ := hh
              have s1 : v = .ref (g1.θ l') ∧ l' < g1.n := s1
              obtain ⟨rfl, hl1⟩ := s1
              obtain ⟨c1, _⟩ := R1.cell l' _ hO1
              refine ⟨g1.θ l', od, vs, rfl, c1, ?_⟩
              have eqθ : g1.θ l' = g0.θ l' := e1.le.θ l' hl
              refine ⟨fun i m σ H => m = (itemsL kvs).length - i ∧ i ≤ (itemsL kvs).length ∧ ∃ g r O, GLe g1 g ∧ RepO C g H O ∧ RepS C g σ r ∧ PostS C W g H (forKL t f l' (.loc (.frz od (.dK vs)) kvs) ((itemsL kvs).drop i) r O) (lockD (g0.θ l') (.frz od (.dK vs)) (.dK vs) E), ⟨_, rfl, Nat.zero_le _, g1, r0, O1, GLe.refl _, R1, S1, h3⟩, ?_⟩
              have hlen : vs.length = (itemsL kvs).length := by rw [shrK_len sk]; simp [itemsL]
              rintro i m σ H ⟨rfl, hi, g, r, O, le, R, S, h⟩
              by_cases hlt : i < (itemsL kvs).length
              · obtain ⟨d, hd2⟩ : ∃ d, (itemsL kvs)[i]? = some d := ⟨_, List.getElem?_eq_getElem hlt⟩
                have hdrop : (itemsL kvs).drop i = d :: (itemsL kvs).drop (i + 1) := by
                  rw [List.drop_eq_getElem_cons hlt]
                  congr 1
                  rw [List.getElem?_eq_getElem hlt] at hd2
                  exact Option.some.inj hd2
                rw [hdrop] at h
                unfold forKL at h
                split at h
                · rename_i hst
                  obtain ⟨c2, _⟩ := R.cell l' _ hst
                  rw [le.θ l' hl1] at c2
                  refine .inr ⟨⟨c2, by rw [hlen]; exact hlt⟩, fun σ' H' => ∃ g r O, GLe g1 g ∧ RepO C g H' O ∧ RepS C g σ' r ∧ PostS C W g H' (forKL t f l' (.loc (.frz od (.dK vs)) kvs) ((itemsL kvs).drop (i + 1)) r O) (lockD (g0.θ l') (.frz od (.dK vs)) (.dK vs) E), fun σ' H' hh => ⟨_, ?_, rfl, hlt, hh⟩, fun x H2 y => ?_⟩
                  · omega
                  obtain ⟨T, k, v, ev, rfl, hT, rfl⟩ := y
                  have leT := GLe.frz (g := g) (o := .tup [kV k, v]) (R.Fnone hT)
                  have e2 := Ext.freeze R (o := .tup [kV k, v]) hT
                  have R2 := R.frz (o := .tup [kV k, v]) hT
                  have s2 : Shr C.K (g.frz T (.tup [kV k, v])) d (.ref T) := by
                    obtain ⟨qd, rfl, rfl, s3⟩ := shrK_at (sk.mono (e1.le.trans le)) hd2 ev
                    simp only [Shr]
                    refine ⟨T, _, rfl, .inl (.inl upd_same), ?_⟩
                    simp only [ShrL]
                    refine ⟨_, _, rfl, ?_, _, _, rfl, Shr.mono leT _ _ s3, rfl⟩
                    cases qd.1 with
                    | inl i => rfl
                    | inr x => rfl
                  refine u _ σ _ r O R2 (S.mono leT) d _ s2 _ ?_
                  cases z : t d r O with
                  | none => rw [z] at h; exact h.elim
                  | some y =>
                    obtain ⟨r1, O3⟩ := y
                    rw [z] at h
                    intro σ3 g3 H3 e3 R3 S3 _
                    refine sb g3 σ3 H3 r1 O3 R3 S3 _ ?_
                    have h := PostS.shift (e2.trans e3) h
                    cases z2 : f r1 O3 with
                    | nx r2 O2 => simp only [z2] at h; exact fun σ4 g4 H4 e4 R4 S4 => ⟨g4, r2, O2, le.trans (leT.trans (e3.le.trans e4.le)), R4, S4, PostS.shift e4 h⟩
                    | ct r2 O2 => simp only [z2] at h; exact fun σ4 g4 H4 e4 R4 S4 => ⟨g4, r2, O2, le.trans (leT.trans (e3.le.trans e4.le)), R4, S4, PostS.shift e4 h⟩
                    | bk r2 O2 => simp only [z2] at h; exact h
                    | ret d O2 => simp only [z2] at h; exact h
                    | exc e r2 O2 => simp only [z2] at h; exact h
                    | bad => simp only [z2] at h; exact h
                · exact h.elim
              · have hi' : i = (itemsL kvs).length := by omega
                subst hi'
                rw [List.drop_length] at h
                unfold forKL at h
                split at h
                · rename_i hst
                  obtain ⟨c2, _⟩ := R.cell l' _ hst
                  rw [le.θ l' hl1] at c2
                  exact .inl ⟨⟨c2, by rw [hlen]; exact Nat.le_refl _⟩, h σ g H (Ext.refl R) R S⟩
                · exact h.elim
            · exact h3.elim
          · exact h3.elim
        · exact h0.elim
      · exact h0.elim
    · exact h0.elim⟩
end
end Dn
set_option Elab.async false
set_option linter.all false
set_option maxRecDepth 100000
set_option maxHeartbeats 4000000
/-! dict(d), dict(pairs), == of dicts -/
namespace Dn
open PySem PySem.Spec PyProof.Rows L2
section
variable {C : Ctx} {X : Cx} {W : WX} {a b e : Expr} {fa fb : DE0} {p pos : Pos} {es : List Expr} {fas : Rho → Sto → Res (List D)}
def pairsD : List D → Option (List (DKey × D))
  | [] => some []
  | .tup [k, v] :: ds => match keyD k with | some k => (pairsD ds).map ((k, v) :: ·) | none => none
  | _ :: _ => none
def dictF : List D → Sto → ER := fun ds O => match ds with
  | [d] => (match dicOf d O with
    | some (_, kvs) => .ok (.ob O.length) (O ++ [.dic kvs])
    | none => match listR d O with
      | some xs => (match pairsD xs with | some kvs => .ok (.ob O.length) (O ++ [.dic (mergeD [] kvs)]) | none => .bad)
      | none => .bad)
  | _ => .bad
def rDictD : List V → Hp → VK → Prop := fun xs H Q => ∃ (a : Addr) (kvs : List (Key × V)), xs = [.ref a] ∧ Rd H a (.dK kvs) ∧ ∀ p, H p = none → Q (.ref p) (upd H p (.dK kvs))
def rDictP (K : PySem.W.Frag) : List V → Hp → VK → Prop := fun xs H Q => ∃ (a : Addr) (ps : List Addr) (kvs : List (Key × V)), xs = [.ref a] ∧ SqL K H a (ps.map V.ref) ∧ Paired (fun p kv => SqT K H p [kV kv.1, kv.2]) ps kvs ∧ ∀ p, H p = none → Q (.ref p) (upd H p (.dK (mergeK [] kvs)))
theorem new_dic {g : G} {H : Hp} {O : Sto} {σ : L2.St} {kvs : List (DKey × D)} {vs : List (Key × V)} {Q : VK} (R : RepO C g H O) (s : ShrK C.K g kvs vs) (h : Post C W σ g H (Res.ok (D.ob O.length) (O ++ [.dic kvs])) Q) {p : Addr} (hp : H p = none) : Q (.ref p) (upd H p (.dK vs)) := by
  have hk : ∀ a o, H a = some o → upd H p (.dK vs) a = some o := fun a o e => by rw [upd_ne (ne_of_none e hp)]; exact e
  refine h _ (g.add p) _ (Ext.add R hp hk) (R.add hp hk ⟨vs, upd_same, s.mono GLe.add⟩) ?_
  show Shr _ _ (.ob O.length) _
  simp only [Shr]
  rw [← R.n, G.add_at]
  exact ⟨rfl, Nat.lt_succ_self _⟩
theorem keyB_shr {K : PySem.W.Frag} {g : G} {k : D} {dk : DKey} {v : V} (h : keyD k = some dk) (s : Shr K g k v) : v = kV (kD dk) := by
  cases k <;> simp only [keyD] at h <;> first | cases h | skip
  · cases s; rfl
  · cases s; rfl
theorem pairs_of {g : G} {H : Hp} (hF : ∀ a o, g.F a = some o → H a = some o) : ∀ {xs : List D} {kvs : List (DKey × D)} {ws : List V}, pairsD xs = some kvs → ShrL C.K g xs ws → ∃ (ps : List Addr) (vs : List (Key × V)), ws = ps.map V.ref ∧ Paired (fun p (kv : Key × V) => SqT C.K H p [kV kv.1, kv.2]) ps vs ∧ ShrK C.K g kvs vs
  | [], kvs, ws, h, s => by
    simp only [pairsD] at h; cases h
    simp only [ShrL] at s; subst s
    exact ⟨[], [], rfl, .nil, by simp [ShrK]⟩
  | x :: xs, kvs, ws, h, s => by
    unfold pairsD at h
    split at h
    · cases ‹x :: xs = []›
    · rename_i k v ds e
      cases e
      split at h
      · rename_i dk hk
        simp only [Option.map_eq_some_iff] at h
        obtain ⟨kvs', h1, rfl⟩ := h
        simp only [ShrL] at s
        obtain ⟨w, r, rfl, s1, s2⟩ := s
        simp only [Shr, ShrL] at s1
        obtain ⟨q, us, rfl, t1, v1, r1, rfl, k1, v2, r2, rfl, k2, rfl⟩ := s1
        obtain ⟨ps, vs, rfl, p1, p2⟩ := pairs_of hF h1 s2
        have := keyB_shr hk k1
        subst this
        exact ⟨q :: ps, (kD dk, v2) :: vs, rfl, .cons (ex_t hF t1) p1, by simp only [ShrK]; exact ⟨v2, vs, rfl, k2, p2⟩⟩
      · cases h
    · cases h
theorem s_dict : SatC C W (fun xs H Q => rDictD xs H Q ∨ rDictP C.K xs H Q) dictF := by
  intro g H O R ds vs s σ Q h
  unfold dictF at h
  split at h
  · rename_i d
    obtain ⟨v, rfl, sv⟩ := shrL_one s
    split at h
    · rename_i l kvs eq
      obtain ⟨rfl, _, _, ws, h2, h3⟩ := dicOf_of R sv eq
      exact .inl ⟨_, ws, rfl, .inl h2, fun p hp => new_dic R h3 h hp⟩
    · split at h
      · rename_i xs ex
        split at h
        · rename_i kvs ek
          obtain ⟨a, ws, rfl, h1, h2⟩ := listR_of R sv ex
          obtain ⟨ps, us, rfl, p1, p2⟩ := pairs_of R.F ek h2
          exact .inr ⟨a, ps, us, rfl, h1, p1, fun p hp => new_dic R (mergeD_of p2 (by simp [ShrK])) h hp⟩
        · exact h.elim
      · exact h.elim
  · exact h.elim
theorem e_dict (hK : X.K = C.K) (hc : X.calm = true) (hm : X.mg "dict" = none) (hg : Gl X "dict") (ha : DA C X W (e :: es) fas)
    (he : starEach (e :: es) X.env = (false, eval e X.env) :: starEach es X.env := by rfl) (hpl : (backTo pos (starEach es X.env)).any (·.1) = false := by rfl) : DE C X W (.Call (.Name "dict" p) (e :: es) [] pos) (callE dictF fas) :=
  d_callTy (CallR.or call_dictD (call_dictP hc)) (by rw [hK]; exact s_dict) hg hm (by decide +kernel) ha (by decide) (by decide) he hpl
/-! ### == -/
def fl2 : D → D → Bool
  | .str x, .str y => x == y
  | .int i, .int j => i == j
  | .bl a, .bl b => a == b
  | .non, .non => true
  | _, _ => false
def dicEq (ks ls : List (DKey × D)) : Bool := decide (ks.length = ls.length) && ks.all fun p => match getK ls p.1 with | some d => fl2 p.2 d | none => false
def eqDX : O2 := fun a b O => match dicOf a O, dicOf b O with
  | some (_, ks), some (_, ls) => if dicEq ks ls then .ok (.bl true) O else .bad
  | _, _ => eqD a b O
def neDX : O2 := fun a b O => match dicOf a O, dicOf b O with
  | some (_, ks), some (_, ls) => if dicEq ks ls then .ok (.bl false) O else .bad
  | _, _ => neD a b O
theorem fl2_of {K : PySem.W.Frag} {g : G} {a b : D} {x y : V} (h : fl2 a b = true) (sx : Shr K g a x) (sy : Shr K g b y) : y = x ∧ flatB x = true := by
  unfold fl2 at h
  split at h
  · have e := eq_of_beq h
    simp only [Shr] at sx sy; subst sx; subst sy; rw [e]; exact ⟨rfl, rfl⟩
  · have e := eq_of_beq h
    simp only [Shr] at sx sy; subst sx; subst sy; rw [e]; exact ⟨rfl, rfl⟩
  · have e := eq_of_beq h
    simp only [Shr] at sx sy; subst sx; subst sy; rw [e]; exact ⟨rfl, rfl⟩
  · simp only [Shr] at sx sy; subst sx; subst sy; exact ⟨rfl, rfl⟩
  · cases h
theorem dicEq_of {K : PySem.W.Frag} {g : G} {ls : List (DKey × D)} {vs : List (Key × V)} (sl : ShrK K g ls vs) : ∀ {ks : List (DKey × D)} {us : List (Key × V)}, ShrK K g ks us → (ks.all fun p => match getK ls p.1 with | some d => fl2 p.2 d | none => false) = true → ∀ p ∈ us, valV vs p.1 = some p.2 ∧ flatB p.2 = true
  | [], us, s, _, p, hp => by simp only [ShrK] at s; subst s; cases hp
  | q :: ks, us, s, h, p, hp => by
    simp only [ShrK] at s
    obtain ⟨v, r, rfl, s2, s3⟩ := s
    rw [List.all_cons, Bool.and_eq_true] at h
    rcases List.mem_cons.mp hp with rfl | hp
    · have h1 := h.1
      split at h1
      · rename_i d hd
        obtain ⟨w, w1, w2⟩ := (shrK_get sl (k := q.1)).1 d hd
        obtain ⟨rfl, f⟩ := fl2_of h1 s2 w2
        exact ⟨w1, f⟩
      · cases h1
    · exact dicEq_of sl s3 h.2 p hp
theorem eqX_of {g : G} {H : Hp} {O : Sto} {a b : D} {x y : V} {l l' : Nat} {ks ls : List (DKey × D)} (R : RepO C g H O) (sx : Shr C.K g a x) (sy : Shr C.K g b y) (h1 : dicOf a O = some (l, ks)) (h2 : dicOf b O = some (l', ls)) (h : dicEq ks ls = true) :
    ∃ p q us vs, x = .ref p ∧ y = .ref q ∧ H p = some (.dK us) ∧ H q = some (.dK vs) ∧ us.length = vs.length ∧ (∀ z ∈ us, valV vs z.1 = some z.2 ∧ flatB z.2 = true) := by
  obtain ⟨rfl, _, _, us, a2, a3⟩ := dicOf_of R sx h1
  obtain ⟨rfl, _, _, vs, b2, b3⟩ := dicOf_of R sy h2
  simp only [dicEq, Bool.and_eq_true, decide_eq_true_eq] at h
  exact ⟨_, _, us, vs, rfl, rfl, a2, b2, by rw [shrK_len a3, shrK_len b3]; exact h.1, dicEq_of b3 a3 h.2⟩
theorem s_eqX : Sat2 C W (fun x y H Q => rEqA C.K x y H Q ∨ rEqDA x y H Q) eqDX := by
  intro g H O R a b x y sx sy σ Q h
  unfold eqDX at h
  split at h
  · rename_i h1 h2
    split at h
    · rename_i hd
      obtain ⟨p, q, us, vs, e1, e2, e3, e4, e5, e6⟩ := eqX_of R sx sy h1 h2 hd
      exact .inr ⟨p, q, us, vs, e1, e2, e3, e4, e5, e6, Post.fin R rfl h⟩
    · exact h.elim
  · exact .inl (s_eq g H O R a b x y sx sy σ Q h)
theorem s_neX : Sat2 C W (fun x y H Q => rNeA C.K x y H Q ∨ rNeDA x y H Q) neDX := by
  intro g H O R a b x y sx sy σ Q h
  unfold neDX at h
  split at h
  · rename_i h1 h2
    split at h
    · rename_i hd
      obtain ⟨p, q, us, vs, e1, e2, e3, e4, e5, e6⟩ := eqX_of R sx sy h1 h2 hd
      exact .inr ⟨p, q, us, vs, e1, e2, e3, e4, e5, e6, Post.fin R rfl h⟩
    · exact h.elim
  · exact .inl (s_ne g H O R a b x y sx sy σ Q h)
theorem t_eqX (hK : X.K = C.K) (hu : X.A.units + 64 < cLine) (ha : DE C X W a fa) (hb : DE C X W b fb) : DT C X W (.Compare a [.Eq] [b] pos) (cmpT eqDX fa fb) := t_cmp ((op_eqA hu).or (op_eq_dictA (by omega))) (by rw [hK]; exact s_eqX) ha hb
theorem t_neX (hK : X.K = C.K) (hu : X.A.units + 64 < cLine) (ha : DE C X W a fa) (hb : DE C X W b fb) : DT C X W (.Compare a [.NotEq] [b] pos) (cmpT neDX fa fb) := t_cmp ((op_neA hu).or (op_ne_dictA (by omega))) (by rw [hK]; exact s_neX) ha hb
end
end Dn
set_option Elab.async false
set_option linter.all false
set_option maxRecDepth 100000
set_option maxHeartbeats 4000000
/-! d.clear(), .rfind of one sign -/
namespace Dn
open PySem PySem.Spec PyProof.Rows L2
section
variable {C : Ctx} {X : Cx} {W : WX} {o e : Expr} {fo : DE0} {p apos cpos pos : Pos} {es : List Expr} {fas : Rho → Sto → Res (List D)}
def clearDF : D → List D → Sto → ER := fun d ds O => match d, ds with
  | .ob l, [] => (match O[l]? with | some (.dic _) => .ok .non (O.set l (.dic [])) | _ => .bad)
  | _, _ => .bad
theorem s_clearD : SatM C W rDClear clearDF := by
  intro g H O R d ds v vs s sl σ Q h
  unfold clearDF at h
  split at h
  · rename_i l
    simp only [Shr] at s
    obtain ⟨rfl, hl⟩ := s
    simp only [ShrL] at sl
    subst sl
    split at h
    · rename_i xs e
      obtain ⟨ws, h1, h2⟩ := R.cell l _ e
      exact ⟨_, ws, rfl, rfl, h1, h .non g _ (Ext.set R hl) (R.set hl ⟨[], upd_same, by simp [ShrK]⟩) rfl⟩
    · exact h.elim
  · exact h.elim
theorem e_clearD (hK : X.K = C.K) (ho : DE C X W o fo)
    (hbase : attributeBase o "clear" X.env (eval o X.env) = eval o X.env := by rfl) (hline : (apos.endLine == cpos.line) = true := by rfl) :
    DE C X W (.Call (.Attribute o "clear" apos) [] [] cpos) (bmE tyDic clearDF fo nilA) :=
  d_bm0 hK PySem.F.plainAttrs_dict PySem.F.slot_dict_clear PySem.F.type_dict_clear mtd_clear s_clearD ty_dic ho hbase hline
/-! ### rfind of one sign -/
def rfindL (x : List Nat) (c : Nat) : Option Nat := (List.range x.length).foldl (fun l i => if x.getD i 0 == c then some i else l) none
theorem rfind_L (x : List Nat) (c : Nat) : Txt.rfind (mkS x) ⟨#[c]⟩ = asI (rfindL x c) := by
  have hl : (mkS x).length = x.length := len_mkS x
  have hsub : ∀ i, Builtin.Str.subAt (mkS x) ⟨#[c]⟩ i = decide (i < x.length ∧ x.getD i 0 = c) := by
    intro i
    rw [StrLaws.subAt_eq]
    have : (mkS x).cps.toList = x := rfl
    rw [this]
    show ((x.drop i).take 1 == [c]) = _
    by_cases hi : i < x.length
    · have e : (x.drop i).take 1 = [x[i]] := by rw [List.drop_eq_getElem_cons hi]; rfl
      rw [e]
      by_cases q : x[i] = c
      · simp [hi, List.getD_eq_getElem?_getD, q]
      · simp [hi, List.getD_eq_getElem?_getD, q]
    · rw [List.drop_eq_nil_of_le (by omega)]
      simp [hi]
  have key : Builtin.Str.lastOccurrence (mkS x) ⟨#[c]⟩ 0 (mkS x).length = rfindL x c := by
    unfold Builtin.Str.lastOccurrence rfindL
    rw [hl]
    simp only [hsub]
    rw [Std.Legacy.Range.forIn_eq_forIn_range']
    simp only [Std.Legacy.Range.size, Nat.sub_zero, Nat.add_sub_cancel, Nat.div_one]
    have go : ∀ (is : List Nat) (l : Option Nat), (forIn (m := Id) is l fun i s => if (decide (i + ({ cps := #[c] } : Str).length ≤ x.length) && decide (i < x.length ∧ x.getD i 0 = c)) = true then pure (ForInStep.yield (some i)) else pure (ForInStep.yield s)) =
        is.foldl (fun l i => if i < x.length ∧ x.getD i 0 = c then some i else l) l := by
      intro is
      induction is with
      | nil => intro l; rfl
      | cons i is ih =>
        intro l
        rw [List.forIn_cons, List.foldl_cons]
        have h1 : ({ cps := #[c] } : Str).length = 1 := rfl
        rw [h1]
        by_cases q : i < x.length ∧ x.getD i 0 = c
        · rw [if_pos (by rw [Bool.and_eq_true, decide_eq_true_eq, decide_eq_true_eq]; exact ⟨by have := q.1; omega, q⟩), if_pos q]
          exact ih _
        · rw [if_neg (by rw [Bool.and_eq_true, decide_eq_true_eq, decide_eq_true_eq]; exact fun z => q z.2), if_neg q]
          exact ih _
    refine (go _ _).trans ?_
    rw [show x.length + 1 = x.length + 1 from rfl, List.range'_1_concat, List.foldl_append, Nat.zero_add]
    simp only [List.foldl_cons, List.foldl_nil]
    rw [if_neg (by omega), ← List.range_eq_range']
    have : ∀ (is : List Nat) (l : Option Nat), (∀ i ∈ is, i < x.length) → is.foldl (fun l i => if i < x.length ∧ x.getD i 0 = c then some i else l) l = is.foldl (fun l i => if (x.getD i 0 == c) = true then some i else l) l := by
      intro is
      induction is with
      | nil => intro l _; rfl
      | cons i is ih =>
        intro l hi
        rw [List.foldl_cons, List.foldl_cons, ih _ (fun j hj => hi j (by simp [hj]))]
        congr 1
        have := hi i (by simp)
        by_cases q : x.getD i 0 = c <;> simp [q, this]
    exact this _ _ (fun i hi => by simpa using hi)
  unfold Txt.rfind
  rw [key]
  unfold asI
  cases rfindL x c <;> rfl
def rfind1F : D → List D → Sto → ER := fun d ds O => match d, ds with
  | .str a, [.str [c]] => .ok (.int (asI (rfindL a c))) O
  | _, _ => .bad
theorem s_rfind1 : SatM C W (fun x xs H Q => ∃ a b, x = .str a ∧ xs = [.str b] ∧ Q (.int (Txt.rfind a b)) H) rfind1F := by
  intro g H O R d ds v vs s sl σ Q h
  unfold rfind1F at h
  split at h
  · rename_i a c
    cases s
    obtain ⟨w, rfl, sy⟩ := shrL_one sl
    cases sy
    refine ⟨mkS a, ⟨#[c]⟩, rfl, rfl, ?_⟩
    rw [rfind_L]
    exact Post.fin R rfl h
  · exact h.elim
theorem e_rfind1 (hK : X.K = C.K) (ho : DE C X W o fo) (ha : DA C X W [e] fas)
    (hbase : attributeBase o "rfind" X.env (eval o X.env) = eval o X.env := by rfl)
    (hfew : ((backTo cpos (starEach [e] X.env)).all (fun x => !x.1) && (backToKw cpos (keywordEach [] X.env)).all (fun x => x.1.isSome)
      && decide ([e].length + ([] : List Keyword).length + (if ([] : List Keyword).isEmpty then 0 else 1) < 30)) = true := by rfl)
    (hline : (apos.endLine == cpos.line) = true := by rfl) (hs : starEach [e] X.env = (false, eval e X.env) :: starEach [] X.env := by rfl) (hplain : (backTo cpos (starEach [] X.env)).any (·.1) = false := by rfl) :
    DE C X W (.Call (.Attribute o "rfind" apos) [e] [] cpos) (bmE tyStr rfind1F fo fas) :=
  d_bm hK PySem.F.plainAttrs_str PySem.F.slot_str_rfind PySem.F.type_str_rfind mt_rfind s_rfind1 ty_str ho ha hbase hfew hline hs hplain
end
end Dn
set_option linter.all false
namespace Dn
open PySem
/-! ### evaluating -/
theorem bind_ok {α γ : Type} (a : α) (O : Sto) (k : α → Sto → Res γ) : (Res.ok a O).bind k = k a O := rfl
theorem bindS_ok {α : Type} (a : α) (O : Sto) (r : Rho) (k : α → Sto → SR) : (Res.ok a O).bindS r k = k a O := rfl
theorem bind_nx (r : Rho) (O : Sto) (k : Rho → Sto → SR) : (SR.nx r O).bind k = k r O := rfl
theorem bind_ret (d : D) (O : Sto) (k : Rho → Sto → SR) : (SR.ret d O).bind k = .ret d O := rfl
theorem bind_exc (e : Er) (r : Rho) (O : Sto) (k : Rho → Sto → SR) : (SR.exc e r O).bind k = .exc e r O := rfl
theorem bind_ct (r : Rho) (O : Sto) (k : Rho → Sto → SR) : (SR.ct r O).bind k = .ct r O := rfl
theorem bind_bk (r : Rho) (O : Sto) (k : Rho → Sto → SR) : (SR.bk r O).bind k = .bk r O := rfl
/-- the words that reckon -/
def lawD (c s m : Int) : Int := (((c + 104729 * s) % 4294967291) * ((c + 104729 * s) % 4294967291) % 4294967279 * 48271 % 4294967291) / 64 % m
/-- which class has which field -/
def att (c f : Nat) : Bool := match c with
  | 0 => ([0, 1, 2] : List Nat).contains f
  | 1 => ([0, 3, 4, 5] : List Nat).contains f
  | 2 => ([6, 7] : List Nat).contains f
  | 3 => ([8, 9, 10, 11] : List Nat).contains f
  | 4 => ([12, 13, 14, 15, 6] : List Nat).contains f
  | 5 => ([16, 17, 18, 0, 19] : List Nat).contains f
  | 6 => ([20, 21] : List Nat).contains f
  | _ => false
end Dn
set_option linter.all false
set_option maxRecDepth 100000
namespace Dn.Lib
open Dn PySem
def c_DAY : D := .int 86400
def c_DEEP_MOST_gatetext : D := .int 30
def c_DEEP_MOST_names : D := .int 6
def c_FIELDS : D := .tup [(.str [109, 111, 109, 101, 110, 116]), (.str [108, 101, 118, 101, 108]), (.str [110, 97, 109, 101]), (.str [119, 111, 114, 100, 115])]
def c_FIGURES_MOST : D := .int 9
def c_LEVEL_MOST : D := .int 99
def c_MARKS : D := .str [60, 62, 61]
def c_NAME : D := .str [108, 111, 103]
def c_PART_MOST : D := .int 8
def c_SIGNS_gatetext : D := .str [97, 98, 99, 100, 101, 102, 103, 104, 105, 106, 107, 108, 109, 110, 111, 112, 113, 114, 115, 116, 117, 118, 119, 120, 121, 122, 48, 49, 50, 51, 52, 53, 54, 55, 56, 57, 95, 46, 42]
def c_SIGNS_names : D := .str [97, 98, 99, 100, 101, 102, 103, 104, 105, 106, 107, 108, 109, 110, 111, 112, 113, 114, 115, 116, 117, 118, 119, 120, 121, 122, 48, 49, 50, 51, 52, 53, 54, 55, 56, 57, 95]
def c_TEXTS_MOST : D := .int 1000
def c_TOP_LEVEL : D := .int 30
def c_WIDE_MOST : D := .int 40
def c_WORDS : D := .tup [(.str [97, 108, 108]), (.str [100, 101, 98, 117, 103]), (.str [105, 110, 102, 111]), (.str [119, 97, 114, 110]), (.str [101, 114, 114, 111, 114]), (.str [102, 97, 116, 97, 108])]
def c_WORDS_MOST : D := .int 80
def B_Disk_init : DS0 :=
  (consS (fldS att 6 (varE 0) dic0E)
    (fldS att 7 (varE 0) (callE (listF true) (consA (varE 1) nilA))))
def fn_Disk_init : Fn := runFn 2 B_Disk_init
def B_Disk_need : DS0 :=
  (ifS (cmpT (inB true) (varE 1) (fldE att 6 (varE 0)))
    (raiseS 7)
    nilS)
def fn_Disk_need : Fn := runFn 2 B_Disk_need
def B_Disk_step : DS0 :=
  (ifS (truT (fldE att 7 (varE 0)))
    (consS (ifS (cmpT eqD (op2 ixD (fldE att 7 (varE 0)) (constE (.int 0))) (constE (.int 0)))
    (consS (fldS att 7 (varE 0) (slE true (fldE att 7 (varE 0)) (someP (constE (.int 1))) noP))
    (raiseS 8))
    nilS)
    (asgS (subG (fldE att 7 (varE 0)) (constE (.int 0))) (op2 subD (op2 ixD (fldE att 7 (varE 0)) (constE (.int 0))) (constE (.int 1)))))
    nilS)
def fn_Disk_step : Fn := runFn 1 B_Disk_step
def B_Disk_cut : DS0 :=
  (consS (exprS (methE 2 2 fn_Disk_need (varE 0) (consA (varE 1) nilA)))
    (consS (exprS (methE 2 1 fn_Disk_step (varE 0) nilA))
    (asgS (subG (fldE att 6 (varE 0)) (varE 1)) (slE false (op2 ixD (fldE att 6 (varE 0)) (varE 1)) noP (someP (varE 2))))))
def fn_Disk_cut : Fn := runFn 3 B_Disk_cut
def B_Disk_drop : DS0 :=
  (consS (exprS (methE 2 2 fn_Disk_need (varE 0) (consA (varE 1) nilA)))
    (consS (exprS (methE 2 1 fn_Disk_step (varE 0) nilA))
    (exprS (popE (fldE att 6 (varE 0)) (varE 1)))))
def fn_Disk_drop : Fn := runFn 2 B_Disk_drop
def B_Disk_files : DS0 :=
  (retS (callE tupleF (consA (callE (sortedF false) (consA (fldE att 6 (varE 0)) nilA)) nilA)))
def fn_Disk_files : Fn := runFn 1 B_Disk_files
def Q_Disk_put_behind_1 : DS0 :=
  (consS (exprS (methE 2 1 fn_Disk_step (varE 0) nilA))
    (asgS (subG (fldE att 6 (varE 0)) (varE 1)) (op2 (addD false) (getE2 (fldE att 6 (varE 0)) (varE 1) (constE (.str []))) (varE 3))))
def B_Disk_put_behind : DS0 :=
  (forS (seqI (varE 2)) (nameG 3)
    Q_Disk_put_behind_1)
def fn_Disk_put_behind : Fn := runFn 4 B_Disk_put_behind
def B_Disk_rename : DS0 :=
  (consS (exprS (methE 2 2 fn_Disk_need (varE 0) (consA (varE 1) nilA)))
    (consS (exprS (methE 2 1 fn_Disk_step (varE 0) nilA))
    (consS (setS 3 (popE (fldE att 6 (varE 0)) (varE 1)))
    (asgS (subG (fldE att 6 (varE 0)) (varE 2)) (varE 3)))))
def fn_Disk_rename : Fn := runFn 4 B_Disk_rename
def B_Disk_text : DS0 :=
  (consS (exprS (methE 2 2 fn_Disk_need (varE 0) (consA (varE 1) nilA)))
    (retS (op2 ixD (fldE att 6 (varE 0)) (varE 1))))
def fn_Disk_text : Fn := runFn 2 B_Disk_text
def B_Hall_init : DS0 :=
  (consS (fldS att 16 (varE 0) (dicE (consP (constE (.str [])) (constE c_TOP_LEVEL) nilP)))
    (consS (fldS att 17 (varE 0) dic0E)
    (consS (fldS att 18 (varE 0) dic0E)
    (consS (fldS att 0 (varE 0) (constE (.int 0)))
    (fldS att 19 (varE 0) (constE (.int 0)))))))
def fn_Hall_init : Fn := runFn 1 B_Hall_init
def B_Writer_init : DS0 :=
  (consS (fldS att 12 (varE 0) (varE 1))
    (consS (fldS att 13 (varE 0) (varE 2))
    (consS (fldS att 14 (varE 0) (varE 3))
    (consS (fldS att 15 (varE 0) (varE 4))
    (fldS att 6 (varE 0) (lstE true nilA))))))
def fn_Writer_init : Fn := runFn 5 B_Writer_init
def Q_read_field_1 : DS0 :=
  (consS (asgS (tupG 3 (consG (nameG 2) (consG (nameG 3) (consG (nameG 4) nilG)))) (bmE tyStr partition1F (varE 0) (consA (varE 1) nilA)))
    (ifS (andT (cmpT neD (varE 3) (constE (.str []))) (cmpT (inB false) (varE 2) (constE c_FIELDS)))
    (consS (setS 5 (lcE false (callI range2F (consA (constE (.int 1)) (consA (op2 (addD false) (constE c_WIDE_MOST) (constE (.int 1))) nilA))) (nameG 6) (cmpT eqD (callE strF (consA (varE 6) nilA)) (varE 4)) (varE 6) [6]))
    (ifS (truT (varE 5))
    (retS (tupE (consA (constE (.str [102, 105, 101, 108, 100])) (consA (varE 2) (consA (varE 1) (consA (op2 ixD (varE 5) (constE (.int 0))) nilA))))))
    nilS))
    nilS))
def B_read_field : DS0 :=
  (consS (forS (seqI (constE c_MARKS)) (nameG 1)
    Q_read_field_1)
    (consS (ifS (cmpT (inB false) (varE 0) (constE c_FIELDS))
    (retS (tupE (consA (constE (.str [102, 105, 101, 108, 100])) (consA (varE 0) (consA (constE (.str [])) (consA (constE (.int 0)) nilA))))))
    nilS)
    (retS (constE .non))))
def fn_read_field : Fn := runFn 7 B_read_field
def B_with_text : DS0 :=
  (consS (ifS (andT (truT (varE 0)) (cmpT eqD (op2 ixD (op2 ixD (varE 0) (op1 negD (constE (.int 1)))) (constE (.int 0))) (constE (.str [116, 101, 120, 116]))))
    (retS (op2 (addD false) (slE false (varE 0) noP (someP (op1 negD (constE (.int 1))))) (tupE (consA (tupE (consA (constE (.str [116, 101, 120, 116])) (consA (op2 (addD false) (op2 ixD (op2 ixD (varE 0) (op1 negD (constE (.int 1)))) (constE (.int 1))) (varE 1)) nilA))) nilA))))
    nilS)
    (retS (op2 (addD false) (varE 0) (tupE (consA (tupE (consA (constE (.str [116, 101, 120, 116])) (consA (varE 1) nilA))) nilA)))))
def fn_with_text : Fn := runFn 2 B_with_text
def Q_read_form_1 : DS0 :=
  (ifS (cmpT (inB false) (slE false (varE 0) (someP (varE 2)) (someP (op2 (addD false) (varE 2) (constE (.int 2))))) (tupE (consA (constE (.str [123, 123])) (consA (constE (.str [125, 125])) nilA))))
    (consS (setS 1 (fnE 2 (closeFn fn_with_text) (consA (varE 1) (consA (op2 ixD (varE 0) (varE 2)) nilA))))
    (setS 2 (op2 (addD false) (varE 2) (constE (.int 2)))))
    (ifS (cmpT eqD (op2 ixD (varE 0) (varE 2)) (constE (.str [123])))
    (consS (setS 3 (bmE tyStr find2F (varE 0) (consA (constE (.str [125])) (consA (varE 2) nilA))))
    (consS (setS 4 (constE .non))
    (consS (ifS (cmpT gtD (varE 3) (constE (.int 0)))
    (setS 4 (fnE 1 (closeFn fn_read_field) (consA (slE false (varE 0) (someP (op2 (addD false) (varE 2) (constE (.int 1)))) (someP (varE 3))) nilA)))
    nilS)
    (consS (ifS (cmpT isNoneD (varE 4) (constE .non))
    (raiseS1 4 22 (consA (varE 2) nilA))
    nilS)
    (consS (setS 1 (op2 (addD false) (varE 1) (tupE (consA (varE 4) nilA))))
    (setS 2 (op2 (addD false) (varE 3) (constE (.int 1)))))))))
    (consS (ifS (cmpT eqD (op2 ixD (varE 0) (varE 2)) (constE (.str [125])))
    (raiseS1 4 22 (consA (varE 2) nilA))
    nilS)
    (consS (setS 1 (fnE 2 (closeFn fn_with_text) (consA (varE 1) (consA (op2 ixD (varE 0) (varE 2)) nilA))))
    (setS 2 (op2 (addD false) (varE 2) (constE (.int 1))))))))
def B_read_form : DS0 :=
  (consS (setS 1 (tupE nilA))
    (consS (setS 2 (constE (.int 0)))
    (consS (whileS 100000 (cmpT ltD (varE 2) (callE lenF (consA (varE 0) nilA)))
    Q_read_form_1)
    (retS (varE 1)))))
def fn_read_form : Fn := runFn 5 B_read_form
def Q_tokens_1 : DS0 :=
  (setS 2 (op2 (addD false) (varE 2) (constE (.int 1))))
def Q_tokens_2 : DS0 :=
  (consS (setS 3 (varE 2))
    (consS (setS 2 (op2 (addD false) (varE 2) (constE (.int 1))))
    (consS (ifS (cmpT eqD (op2 ixD (varE 0) (varE 3)) (constE (.str [39])))
    (consS (setS 2 (op2 (addD false) (bmE tyStr find2F (varE 0) (consA (constE (.str [39])) (consA (varE 2) nilA))) (constE (.int 1))))
    (ifS (cmpT eqD (varE 2) (constE (.int 0)))
    (raiseS1 3 22 (consA (varE 3) nilA))
    nilS))
    (ifS (cmpT (inB false) (op2 ixD (varE 0) (varE 3)) (constE c_SIGNS_gatetext))
    (whileS 100000 (andT (cmpT ltD (varE 2) (callE lenF (consA (varE 0) nilA))) (cmpT (inB false) (op2 ixD (varE 0) (varE 2)) (constE c_SIGNS_gatetext)))
    Q_tokens_1)
    (ifS (cmpT (inB true) (op2 ixD (varE 0) (varE 3)) (constE (.str [40, 41, 32])))
    (raiseS1 3 22 (consA (varE 3) nilA))
    nilS)))
    (ifS (cmpT neD (op2 ixD (varE 0) (varE 3)) (constE (.str [32])))
    (exprS (bmE tyLst appendF (varE 1) (consA (tupE (consA (slE false (varE 0) (someP (varE 3)) (someP (varE 2))) (consA (varE 3) nilA))) nilA)))
    nilS))))
def B_tokens : DS0 :=
  (consS (setS 1 (lstE true nilA))
    (consS (setS 2 (constE (.int 0)))
    (consS (whileS 100000 (cmpT ltD (varE 2) (callE lenF (consA (varE 0) nilA)))
    Q_tokens_2)
    (retS (op2 (addD false) (varE 1) (lstE false (consA (tupE (consA (constE (.str [])) (consA (callE lenF (consA (varE 0) nilA)) nilA))) nilA)))))))
def fn_tokens : Fn := runFn 4 B_tokens
def B_Reader_init : DS0 :=
  (consS (fldS att 20 (varE 0) (fnE 1 (closeFn fn_tokens) (consA (varE 1) nilA)))
    (fldS att 21 (varE 0) (constE (.int 0))))
def fn_Reader_init : Fn := runFn 2 B_Reader_init
def B_Reader_fail : DS0 :=
  (raiseS1 3 22 (consA (op2 ixD (op2 ixD (fldE att 20 (varE 0)) (constE (.int 0))) (constE (.int 1))) nilA))
def fn_Reader_fail : Fn := runFn 1 B_Reader_fail
def B_Reader_next_word : DS0 :=
  (retS (op2 ixD (op2 ixD (fldE att 20 (varE 0)) (constE (.int 0))) (constE (.int 0))))
def fn_Reader_next_word : Fn := runFn 1 B_Reader_next_word
def B_Reader_pass_word : DS0 :=
  (consS (setS 1 (op2 ixD (op2 ixD (fldE att 20 (varE 0)) (constE (.int 0))) (constE (.int 0))))
    (consS (fldS att 20 (varE 0) (slE false (fldE att 20 (varE 0)) (someP (constE (.int 1))) noP))
    (retS (varE 1))))
def fn_Reader_pass_word : Fn := runFn 2 B_Reader_pass_word
def B_is_name : DS0 :=
  (consS (ifS (notT (truT (op1 (isiD 3) (varE 0))))
    (retS (constE (.bl false)))
    nilS)
    (consS (ifS (cmpT eqD (varE 0) (constE (.str [])))
    (retS (constE (.bl true)))
    nilS)
    (consS (setS 1 (bmE tyStr (splitF false) (varE 0) (consA (constE (.str [46])) nilA)))
    (consS (setS 2 (lcE false (seqI (varE 1)) (nameG 4) yesT (andE (chainE leD leD (constE (.int 1)) (callE lenF (consA (varE 4) nilA)) (constE c_PART_MOST)) (callE allF (consA (lcE false (seqI (varE 4)) (nameG 3) yesT (op2 (inB false) (varE 3) (constE c_SIGNS_names)) [3]) nilA))) [4]))
    (retS (andE (op2 leD (callE lenF (consA (varE 1) nilA)) (constE c_DEEP_MOST_names)) (callE allF (consA (varE 2) nilA))))))))
def fn_is_name : Fn := runFn 5 B_is_name
def B_Reader_asked : DS0 :=
  (consS (setS 2 (methE 6 1 fn_Reader_next_word (varE 0) nilA))
    (consS (ifS (cmpT eqD (varE 1) (constE (.str [108, 101, 118, 101, 108])))
    (consS (setS 3 (lcE false (seqI (varE 2)) (nameG 4) (cmpT (inB false) (varE 4) (constE (.str [48, 49, 50, 51, 52, 53, 54, 55, 56, 57]))) (varE 4) [4]))
    (consS (ifS (orT (notT (chainT leD leD (constE (.int 1)) (callE lenF (consA (varE 2) nilA)) (constE (.int 2)))) (orT (cmpT ltD (callE lenF (consA (varE 3) nilA)) (callE lenF (consA (varE 2) nilA))) (andT (cmpT eqD (op2 ixD (varE 2) (constE (.int 0))) (constE (.str [48]))) (cmpT gtD (callE lenF (consA (varE 2) nilA)) (constE (.int 1))))))
    (exprS (methE 6 1 fn_Reader_fail (varE 0) nilA))
    nilS)
    (retS (callE intF (consA (methE 6 1 fn_Reader_pass_word (varE 0) nilA) nilA)))))
    nilS)
    (consS (ifS (cmpT eqD (varE 1) (constE (.str [104, 97, 115])))
    (consS (ifS (cmpT neD (slE false (varE 2) noP (someP (constE (.int 1)))) (constE (.str [39])))
    (exprS (methE 6 1 fn_Reader_fail (varE 0) nilA))
    nilS)
    (retS (slE false (methE 6 1 fn_Reader_pass_word (varE 0) nilA) (someP (constE (.int 1))) (someP (op1 negD (constE (.int 1)))))))
    nilS)
    (consS (ifS (cmpT eqD (varE 2) (constE (.str [42])))
    (consS (exprS (methE 6 1 fn_Reader_pass_word (varE 0) nilA))
    (retS (constE (.str []))))
    nilS)
    (consS (ifS (orT (cmpT eqD (varE 2) (constE (.str []))) (notT (truT (fnE 1 (closeFn fn_is_name) (consA (varE 2) nilA)))))
    (exprS (methE 6 1 fn_Reader_fail (varE 0) nilA))
    nilS)
    (retS (methE 6 1 fn_Reader_pass_word (varE 0) nilA)))))))
def fn_Reader_asked : Fn := runFn 5 B_Reader_asked
-- a group that calls itself: Reader.any_of Reader.all_of Reader.one
def B_Reader_any_of (r_Reader_any_of : Fn) (r_Reader_all_of : Fn) (r_Reader_one : Fn) : DS0 :=
  (consS (setS 1 (methE 6 1 r_Reader_all_of (varE 0) nilA))
    (consS (whileS 100000 (cmpT eqD (methE 6 1 fn_Reader_next_word (varE 0) nilA) (constE (.str [111, 114])))
    (consS (exprS (methE 6 1 fn_Reader_pass_word (varE 0) nilA))
    (setS 1 (tupE (consA (constE (.str [111, 114])) (consA (varE 1) (consA (methE 6 1 r_Reader_all_of (varE 0) nilA) nilA)))))))
    (retS (varE 1))))
def B_Reader_all_of (r_Reader_any_of : Fn) (r_Reader_all_of : Fn) (r_Reader_one : Fn) : DS0 :=
  (consS (setS 1 (methE 6 1 r_Reader_one (varE 0) nilA))
    (consS (whileS 100000 (cmpT eqD (methE 6 1 fn_Reader_next_word (varE 0) nilA) (constE (.str [97, 110, 100])))
    (consS (exprS (methE 6 1 fn_Reader_pass_word (varE 0) nilA))
    (setS 1 (tupE (consA (constE (.str [97, 110, 100])) (consA (varE 1) (consA (methE 6 1 r_Reader_one (varE 0) nilA) nilA)))))))
    (retS (varE 1))))
def B_Reader_one (r_Reader_any_of : Fn) (r_Reader_all_of : Fn) (r_Reader_one : Fn) : DS0 :=
  (consS (setS 1 (methE 6 1 fn_Reader_next_word (varE 0) nilA))
    (consS (ifS (cmpT (inB false) (varE 1) (tupE (consA (constE (.str [121, 101, 115])) (consA (constE (.str [110, 111])) nilA))))
    (retS (tupE (consA (methE 6 1 fn_Reader_pass_word (varE 0) nilA) nilA)))
    nilS)
    (consS (ifS (cmpT (inB false) (varE 1) (tupE (consA (constE (.str [108, 101, 118, 101, 108])) (consA (constE (.str [117, 110, 100, 101, 114])) (consA (constE (.str [104, 97, 115])) nilA)))))
    (consS (exprS (methE 6 1 fn_Reader_pass_word (varE 0) nilA))
    (retS (tupE (consA (varE 1) (consA (methE 6 2 fn_Reader_asked (varE 0) (consA (varE 1) nilA)) nilA)))))
    nilS)
    (consS (ifS (cmpT (inB true) (varE 1) (tupE (consA (constE (.str [110, 111, 116])) (consA (constE (.str [40])) nilA))))
    (exprS (methE 6 1 fn_Reader_fail (varE 0) nilA))
    nilS)
    (consS (fldS att 21 (varE 0) (op2 (addD false) (fldE att 21 (varE 0)) (constE (.int 1))))
    (consS (ifS (cmpT gtD (fldE att 21 (varE 0)) (constE c_DEEP_MOST_gatetext))
    (exprS (methE 6 1 fn_Reader_fail (varE 0) nilA))
    nilS)
    (consS (exprS (methE 6 1 fn_Reader_pass_word (varE 0) nilA))
    (consS (ifS (cmpT eqD (varE 1) (constE (.str [110, 111, 116])))
    (setS 2 (tupE (consA (constE (.str [110, 111, 116])) (consA (methE 6 1 r_Reader_one (varE 0) nilA) nilA))))
    (consS (setS 2 (methE 6 1 r_Reader_any_of (varE 0) nilA))
    (consS (ifS (cmpT neD (methE 6 1 fn_Reader_next_word (varE 0) nilA) (constE (.str [41])))
    (exprS (methE 6 1 fn_Reader_fail (varE 0) nilA))
    nilS)
    (exprS (methE 6 1 fn_Reader_pass_word (varE 0) nilA)))))
    (consS (fldS att 21 (varE 0) (op2 subD (fldE att 21 (varE 0)) (constE (.int 1))))
    (retS (varE 2)))))))))))
def grp_Reader_any_of : Nat → Fn × Fn × Fn
  | 0 => (fun _ _ => .bad, fun _ _ => .bad, fun _ _ => .bad)
  | n + 1 => let g := grp_Reader_any_of n; (runFn 2 (B_Reader_any_of g.1 g.2.1 g.2.2), runFn 2 (B_Reader_all_of g.1 g.2.1 g.2.2), runFn 3 (B_Reader_one g.1 g.2.1 g.2.2))
def fn_Reader_any_of (n : Nat) : Fn := (grp_Reader_any_of n).1
def fn_Reader_all_of (n : Nat) : Fn := (grp_Reader_any_of n).2.1
def fn_Reader_one (n : Nat) : Fn := (grp_Reader_any_of n).2.2
def B_read_gate : DS0 :=
  (consS (setS 1 (makeE 6 2 fn_Reader_init (consA (varE 0) nilA)))
    (consS (setS 2 (methE 6 1 (fn_Reader_any_of 100) (varE 1) nilA))
    (consS (ifS (cmpT neD (methE 6 1 fn_Reader_next_word (varE 1) nilA) (constE (.str [])))
    (exprS (methE 6 1 fn_Reader_fail (varE 1) nilA))
    nilS)
    (retS (varE 2)))))
def fn_read_gate : Fn := runFn 3 B_read_gate
def B_Hall_add_writer : DS0 :=
  (consS (setS 5 (fnE 1 (closeFn fn_read_gate) (consA (varE 3) nilA)))
    (consS (exprS (fnE 1 (closeFn fn_read_form) (consA (varE 4) nilA)))
    (consS (fldS att 0 (varE 0) (op2 (addD false) (fldE att 0 (varE 0)) (constE (.int 1))))
    (consS (asgS (subG (fldE att 18 (varE 0)) (fldE att 0 (varE 0))) (makeE 4 5 fn_Writer_init (consA (varE 1) (consA (varE 2) (consA (varE 5) (consA (varE 4) nilA))))))
    (retS (fldE att 0 (varE 0)))))))
def fn_Hall_add_writer : Fn := runFn 6 B_Hall_add_writer
def B_Hall_close : DS0 :=
  (asgS (subG (fldE att 17 (varE 0)) (varE 1)) (varE 2))
def fn_Hall_close : Fn := runFn 3 B_Hall_close
def B_above : DS0 :=
  (consS (ifS (cmpT eqD (varE 0) (constE (.str [])))
    (retS (tupE nilA))
    nilS)
    (consS (setS 1 (bmE tyStr (splitF false) (varE 0) (consA (constE (.str [46])) nilA)))
    (retS (callE tupleF (consA (lcE false (callI range3F (consA (op2 subD (callE lenF (consA (varE 1) nilA)) (constE (.int 1))) (consA (op1 negD (constE (.int 1))) (consA (op1 negD (constE (.int 1))) nilA)))) (nameG 2) yesT (bmE tyStr joinF (constE (.str [46])) (consA (slE false (varE 1) noP (someP (varE 2))) nilA)) [2]) nilA)))))
def fn_above : Fn := runFn 3 B_above
def Q_Hall_level_of_1 : DS0 :=
  (ifS (cmpT (inB false) (varE 2) (fldE att 16 (varE 0)))
    (retS (op2 ixD (fldE att 16 (varE 0)) (varE 2)))
    nilS)
def B_Hall_level_of : DS0 :=
  (consS (forS (seqI (op2 (addD false) (tupE (consA (varE 1) nilA)) (fnE 1 (closeFn fn_above) (consA (varE 1) nilA)))) (nameG 2)
    Q_Hall_level_of_1)
    (retS (constE c_TOP_LEVEL)))
def fn_Hall_level_of : Fn := runFn 3 B_Hall_level_of
def B_Hall_is_told : DS0 :=
  (retS (andE (op2 geD (varE 2) (fldE att 19 (varE 0))) (op2 geD (varE 2) (methE 5 2 fn_Hall_level_of (varE 0) (consA (varE 1) nilA)))))
def fn_Hall_is_told : Fn := runFn 3 B_Hall_is_told
def B_Hall_quiet : DS0 :=
  (fldS att 19 (varE 0) (varE 1))
def fn_Hall_quiet : Fn := runFn 2 B_Hall_quiet
def B_Hall_writer_at : DS0 :=
  (consS (ifS (cmpT (inB true) (varE 1) (fldE att 18 (varE 0)))
    (raiseS 5)
    nilS)
    (retS (op2 ixD (fldE att 18 (varE 0)) (varE 1))))
def fn_Hall_writer_at : Fn := runFn 2 B_Hall_writer_at
def B_Hall_rows : DS0 :=
  (retS (callE tupleF (consA (fldE att 6 (methE 5 2 fn_Hall_writer_at (varE 0) (consA (varE 1) nilA))) nilA)))
def fn_Hall_rows : Fn := runFn 2 B_Hall_rows
def B_Hall_set_level : DS0 :=
  (asgS (subG (fldE att 16 (varE 0)) (varE 1)) (varE 2))
def fn_Hall_set_level : Fn := runFn 3 B_Hall_set_level
def B_Hall_take_away : DS0 :=
  (consS (exprS (methE 5 2 fn_Hall_writer_at (varE 0) (consA (varE 1) nilA)))
    (exprS (popE (fldE att 18 (varE 0)) (varE 1))))
def fn_Hall_take_away : Fn := runFn 2 B_Hall_take_away
def Q_Hall_ways_1 : DS0 :=
  (consS (setS 2 (op2 (addD false) (varE 2) (tupE (consA (varE 3) nilA))))
    (ifS (truT (getE2 (fldE att 17 (varE 0)) (varE 3) (constE (.bl false))))
    (retS (varE 2))
    nilS))
def B_Hall_ways : DS0 :=
  (consS (setS 2 (tupE nilA))
    (consS (forS (seqI (op2 (addD false) (tupE (consA (varE 1) nilA)) (fnE 1 (closeFn fn_above) (consA (varE 1) nilA)))) (nameG 3)
    Q_Hall_ways_1)
    (retS (varE 2))))
def fn_Hall_ways : Fn := runFn 4 B_Hall_ways
def B_level_word : DS0 :=
  (consS (setS 1 (callE min2F (consA (op2 fdivD (varE 0) (constE (.int 10))) (consA (op2 subD (callE lenF (consA (constE c_WORDS) nilA)) (constE (.int 1))) nilA))))
    (consS (setS 2 (op2 subD (varE 0) (op2 (mulD false) (constE (.int 10)) (varE 1))))
    (consS (ifS (cmpT eqD (varE 2) (constE (.int 0)))
    (retS (op2 ixD (constE c_WORDS) (varE 1)))
    nilS)
    (retS (joinE (consJ (fmtE (op2 ixD (constE c_WORDS) (varE 1))) (consJ (constE (.str [43])) (consJ (fmtE (varE 2)) nilJ))))))))
def fn_level_word : Fn := runFn 3 B_level_word
def B_field_text : DS0 :=
  (consS (ifS (cmpT eqD (varE 0) (constE (.str [109, 111, 109, 101, 110, 116])))
    (retS (callE strF (consA (op2 ixD (varE 1) (constE (.int 0))) nilA)))
    nilS)
    (consS (ifS (cmpT eqD (varE 0) (constE (.str [108, 101, 118, 101, 108])))
    (retS (fnE 1 (closeFn fn_level_word) (consA (op2 ixD (varE 1) (constE (.int 1))) nilA)))
    nilS)
    (consS (ifS (cmpT eqD (varE 0) (constE (.str [110, 97, 109, 101])))
    (retS (orE (op2 ixD (varE 1) (constE (.int 2))) (constE (.str [42]))))
    nilS)
    (retS (op2 ixD (varE 1) (constE (.int 3)))))))
def fn_field_text : Fn := runFn 2 B_field_text
def B_laid_part : DS0 :=
  (consS (ifS (cmpT eqD (op2 ixD (varE 0) (constE (.int 0))) (constE (.str [116, 101, 120, 116])))
    (retS (op2 ixD (varE 0) (constE (.int 1))))
    nilS)
    (consS (setS 2 (fnE 2 (closeFn fn_field_text) (consA (op2 ixD (varE 0) (constE (.int 1))) (consA (varE 1) nilA))))
    (consS (ifS (cmpT eqD (op2 ixD (varE 0) (constE (.int 2))) (constE (.str [60])))
    (retS (bmE tyStr ljust1F (varE 2) (consA (op2 ixD (varE 0) (constE (.int 3))) nilA)))
    nilS)
    (consS (ifS (cmpT eqD (op2 ixD (varE 0) (constE (.int 2))) (constE (.str [62])))
    (retS (bmE tyStr rjust1F (varE 2) (consA (op2 ixD (varE 0) (constE (.int 3))) nilA)))
    nilS)
    (consS (ifS (cmpT eqD (op2 ixD (varE 0) (constE (.int 2))) (constE (.str [61])))
    (retS (bmE tyStr ljust1F (slE false (varE 2) noP (someP (op2 ixD (varE 0) (constE (.int 3))))) (consA (op2 ixD (varE 0) (constE (.int 3))) nilA)))
    nilS)
    (retS (varE 2)))))))
def fn_laid_part : Fn := runFn 3 B_laid_part
def B_laid : DS0 :=
  (retS (bmE tyStr joinF (constE (.str [])) (consA (lcE false (seqI (fnE 1 (closeFn fn_read_form) (consA (varE 0) nilA))) (nameG 2) yesT (fnE 2 (closeFn fn_laid_part) (consA (varE 2) (consA (varE 1) nilA))) [2]) nilA)))
def fn_laid : Fn := runFn 3 B_laid
def B_is_under : DS0 :=
  (retS (orE (op2 (inB false) (varE 1) (tupE (consA (constE (.str [])) (consA (varE 0) nilA)))) (bmE tyStr startswithF (varE 0) (consA (op2 (addD false) (varE 1) (constE (.str [46]))) nilA))))
def fn_is_under : Fn := runFn 2 B_is_under
-- a group that calls itself: passes
def B_passes (r_passes : Fn) : DS0 :=
  (consS (setS 2 (op2 ixD (varE 0) (constE (.int 0))))
    (consS (ifS (cmpT (inB false) (varE 2) (tupE (consA (constE (.str [121, 101, 115])) (consA (constE (.str [110, 111])) nilA))))
    (retS (op2 eqD (varE 2) (constE (.str [121, 101, 115]))))
    nilS)
    (consS (ifS (cmpT eqD (varE 2) (constE (.str [108, 101, 118, 101, 108])))
    (retS (op2 geD (op2 ixD (varE 1) (constE (.int 1))) (op2 ixD (varE 0) (constE (.int 1)))))
    nilS)
    (consS (ifS (cmpT eqD (varE 2) (constE (.str [117, 110, 100, 101, 114])))
    (retS (fnE 2 (closeFn fn_is_under) (consA (op2 ixD (varE 1) (constE (.int 2))) (consA (op2 ixD (varE 0) (constE (.int 1))) nilA))))
    nilS)
    (consS (ifS (cmpT eqD (varE 2) (constE (.str [104, 97, 115])))
    (retS (op2 (inB false) (op2 ixD (varE 0) (constE (.int 1))) (op2 ixD (varE 1) (constE (.int 3)))))
    nilS)
    (consS (ifS (cmpT eqD (varE 2) (constE (.str [110, 111, 116])))
    (retS (notE (fnE 2 (closeFn r_passes) (consA (op2 ixD (varE 0) (constE (.int 1))) (consA (varE 1) nilA)))))
    nilS)
    (consS (ifS (cmpT eqD (varE 2) (constE (.str [97, 110, 100])))
    (retS (andE (fnE 2 (closeFn r_passes) (consA (op2 ixD (varE 0) (constE (.int 1))) (consA (varE 1) nilA))) (fnE 2 (closeFn r_passes) (consA (op2 ixD (varE 0) (constE (.int 2))) (consA (varE 1) nilA)))))
    nilS)
    (retS (orE (fnE 2 (closeFn r_passes) (consA (op2 ixD (varE 0) (constE (.int 1))) (consA (varE 1) nilA))) (fnE 2 (closeFn r_passes) (consA (op2 ixD (varE 0) (constE (.int 2))) (consA (varE 1) nilA))))))))))))
def fn_passes : Nat → Fn
  | 0 => fun _ _ => .bad
  | n + 1 => runFn 3 (B_passes (fn_passes n))
def B_Writer_take : DS0 :=
  (consS (ifS (orT (cmpT ltD (op2 ixD (varE 1) (constE (.int 1))) (fldE att 13 (varE 0))) (notT (truT (fnE 2 (closeFn (fn_passes 100)) (consA (fldE att 14 (varE 0)) (consA (varE 1) nilA))))))
    (retS (constE (.bl false)))
    nilS)
    (consS (exprS (bmE tyLst appendF (fldE att 6 (varE 0)) (consA (fnE 2 (closeFn fn_laid) (consA (fldE att 15 (varE 0)) (consA (varE 1) nilA))) nilA)))
    (retS (constE (.bl true)))))
def fn_Writer_take : Fn := runFn 2 B_Writer_take
def Q_Hall_tell_1 : DS0 :=
  (ifS (andT (cmpT eqD (fldE att 12 (varE 5)) (varE 3)) (truT (methE 4 2 fn_Writer_take (varE 5) (consA (varE 1) nilA))))
    (setS 2 (op2 (addD false) (varE 2) (tupE (consA (varE 4) nilA))))
    nilS)
def Q_Hall_tell_2 : DS0 :=
  (forS (seqI (listItemsE (fldE att 18 (varE 0)))) (tupG 2 (consG (nameG 4) (consG (nameG 5) nilG)))
    Q_Hall_tell_1)
def B_Hall_tell : DS0 :=
  (consS (setS 2 (tupE nilA))
    (consS (ifS (truT (methE 5 3 fn_Hall_is_told (varE 0) (consA (op2 ixD (varE 1) (constE (.int 2))) (consA (op2 ixD (varE 1) (constE (.int 1))) nilA))))
    (forS (seqI (methE 5 2 fn_Hall_ways (varE 0) (consA (op2 ixD (varE 1) (constE (.int 2))) nilA))) (nameG 3)
    Q_Hall_tell_2)
    nilS)
    (retS (varE 2))))
def fn_Hall_tell : Fn := runFn 6 B_Hall_tell
def B_Hall_unset_level : DS0 :=
  (ifS (cmpT eqD (varE 1) (constE (.str [])))
    (asgS (subG (fldE att 16 (varE 0)) (varE 1)) (constE c_TOP_LEVEL))
    (ifS (cmpT (inB false) (varE 1) (fldE att 16 (varE 0)))
    (exprS (popE (fldE att 16 (varE 0)) (varE 1)))
    nilS))
def fn_Hall_unset_level : Fn := runFn 2 B_Hall_unset_level
def B_Holder_init : DS0 :=
  (consS (fldS att 0 (varE 0) (varE 1))
    (consS (fldS att 1 (varE 0) (varE 2))
    (fldS att 2 (varE 0) (tupE nilA))))
def fn_Holder_init : Fn := runFn 3 B_Holder_init
def B_Holder_held : DS0 :=
  (retS (fldE att 2 (varE 0)))
def fn_Holder_held : Fn := runFn 1 B_Holder_held
def B_Holder_let_go : DS0 :=
  (consS (setS 1 (fldE att 2 (varE 0)))
    (consS (fldS att 2 (varE 0) (tupE nilA))
    (retS (varE 1))))
def fn_Holder_let_go : Fn := runFn 2 B_Holder_let_go
def B_Holder_put : DS0 :=
  (consS (fldS att 2 (varE 0) (op2 (addD false) (fldE att 2 (varE 0)) (tupE (consA (varE 1) nilA))))
    (consS (ifS (andT (cmpT ltD (op2 ixD (varE 1) (constE (.int 1))) (fldE att 1 (varE 0))) (cmpT ltD (callE lenF (consA (fldE att 2 (varE 0)) nilA)) (fldE att 0 (varE 0))))
    (retS (tupE nilA))
    nilS)
    (retS (methE 0 1 fn_Holder_let_go (varE 0) nilA))))
def fn_Holder_put : Fn := runFn 2 B_Holder_put
def B_Limit_init : DS0 :=
  (consS (fldS att 0 (varE 0) (varE 1))
    (consS (fldS att 3 (varE 0) (varE 2))
    (consS (fldS att 4 (varE 0) dic0E)
    (fldS att 5 (varE 0) (constE (.int 0))))))
def fn_Limit_init : Fn := runFn 3 B_Limit_init
def B_Limit_take : DS0 :=
  (consS (ifS (cmpT ltD (varE 1) (fldE att 5 (varE 0)))
    (raiseS 6)
    nilS)
    (consS (fldS att 5 (varE 0) (varE 1))
    (consS (setS 3 (lcE true (seqI (getE2 (fldE att 4 (varE 0)) (varE 2) (tupE nilA))) (nameG 4) (cmpT gtD (varE 4) (op2 subD (varE 1) (fldE att 3 (varE 0)))) (varE 4) [4]))
    (consS (ifS (cmpT ltD (callE lenF (consA (varE 3) nilA)) (fldE att 0 (varE 0)))
    (consS (exprS (bmE tyLst appendF (varE 3) (consA (varE 1) nilA)))
    (consS (asgS (subG (fldE att 4 (varE 0)) (varE 2)) (callE tupleF (consA (varE 3) nilA)))
    (retS (constE (.bl true)))))
    nilS)
    (retS (constE (.bl false)))))))
def fn_Limit_take : Fn := runFn 5 B_Limit_take
def B_place : DS0 :=
  (consS (ifS (cmpT eqD (varE 0) (constE (.int 0)))
    (retS (constE c_NAME))
    nilS)
    (retS (joinE (consJ (fmtE (constE c_NAME)) (consJ (constE (.str [46])) (consJ (fmtE (varE 0)) nilJ))))))
def fn_place : Fn := runFn 1 B_place
def B_Shelf_there : DS0 :=
  (retS (op2 (inB false) (fnE 1 (closeFn fn_place) (consA (varE 1) nilA)) (methE 2 1 fn_Disk_files (fldE att 8 (varE 0)) nilA)))
def fn_Shelf_there : Fn := runFn 2 B_Shelf_there
def Q_Shelf_move_up_1 : DS0 :=
  (ifS (truT (methE 3 2 fn_Shelf_there (varE 0) (consA (varE 2) nilA)))
    (exprS (methE 2 3 fn_Disk_rename (fldE att 8 (varE 0)) (consA (fnE 1 (closeFn fn_place) (consA (varE 2) nilA)) (consA (fnE 1 (closeFn fn_place) (consA (op2 (addD false) (varE 2) (constE (.int 1))) nilA)) nilA))))
    nilS)
def B_Shelf_move_up : DS0 :=
  (forS (callI range3F (consA (op2 subD (varE 1) (constE (.int 1))) (consA (op1 negD (constE (.int 1))) (consA (op1 negD (constE (.int 1))) nilA)))) (nameG 2)
    Q_Shelf_move_up_1)
def fn_Shelf_move_up : Fn := runFn 3 B_Shelf_move_up
def B_Shelf_mend : DS0 :=
  (consS (ifS (truT (methE 3 2 fn_Shelf_there (varE 0) (consA (constE (.int 0)) nilA)))
    (consS (setS 1 (methE 2 2 fn_Disk_text (fldE att 8 (varE 0)) (consA (constE c_NAME) nilA)))
    (ifS (andT (notT (truT (bmE tyStr endswithF (varE 1) (consA (constE (.str [10])) nilA)))) (cmpT neD (varE 1) (constE (.str []))))
    (exprS (methE 2 3 fn_Disk_cut (fldE att 8 (varE 0)) (consA (constE c_NAME) (consA (op2 (addD false) (bmE tyStr rfind1F (varE 1) (consA (constE (.str [10])) nilA)) (constE (.int 1))) nilA))))
    nilS))
    nilS)
    (consS (setS 2 (lcE false (callI range1F (consA (op2 (addD false) (fldE att 10 (varE 0)) (constE (.int 1))) nilA)) (nameG 3) (truT (methE 3 2 fn_Shelf_there (varE 0) (consA (varE 3) nilA))) (varE 3) [3]))
    (consS (setS 4 (lcE false (callI range2F (consA (constE (.int 1)) (consA (fldE att 10 (varE 0)) nilA))) (nameG 3) (andT (cmpT (inB true) (varE 3) (varE 2)) (cmpT ltD (varE 3) (callE max1F (consA (op2 (addD false) (varE 2) (lstE false (consA (constE (.int 0)) nilA))) nilA)))) (varE 3) [3]))
    (ifS (truT (varE 4))
    (exprS (methE 3 2 fn_Shelf_move_up (varE 0) (consA (op2 ixD (varE 4) (constE (.int 0))) nilA)))
    nilS))))
def fn_Shelf_mend : Fn := runFn 5 B_Shelf_mend
def B_read_figures : DS0 :=
  (consS (ifS (orT (notT (chainT leD leD (constE (.int 1)) (callE lenF (consA (varE 0) nilA)) (constE c_FIGURES_MOST))) (notT (truT (callE allF (consA (lcE false (seqI (varE 0)) (nameG 1) yesT (op2 (inB false) (varE 1) (constE (.str [48, 49, 50, 51, 52, 53, 54, 55, 56, 57]))) [1]) nilA)))))
    (raiseS 2)
    nilS)
    (consS (ifS (andT (cmpT eqD (op2 ixD (varE 0) (constE (.int 0))) (constE (.str [48]))) (cmpT gtD (callE lenF (consA (varE 0) nilA)) (constE (.int 1))))
    (raiseS 2)
    nilS)
    (retS (callE intF (consA (varE 0) nilA)))))
def fn_read_figures : Fn := runFn 2 B_read_figures
def Q_read_level_1 : DS0 :=
  (ifS (cmpT eqD (fnE 1 (closeFn fn_level_word) (consA (varE 1) nilA)) (varE 0))
    (retS (varE 1))
    nilS)
def B_read_level : DS0 :=
  (consS (forS (callI range1F (consA (op2 (addD false) (constE c_LEVEL_MOST) (constE (.int 1))) nilA)) (nameG 1)
    Q_read_level_1)
    (raiseS 1))
def fn_read_level : Fn := runFn 2 B_read_level
def Q_read_row_1 : DS0 :=
  (consS (asgS (tupG 3 (consG (nameG 4) (consG (nameG 5) (consG (nameG 2) nilG)))) (bmE tyStr partition1F (varE 2) (consA (constE (.str [32])) nilA)))
    (consS (ifS (cmpT eqD (varE 5) (constE (.str [])))
    (raiseS 2)
    nilS)
    (exprS (bmE tyLst appendF (varE 1) (consA (varE 4) nilA)))))
def B_read_row : DS0 :=
  (consS (setS 1 (lstE true nilA))
    (consS (setS 2 (varE 0))
    (consS (forS (callI range1F (consA (constE (.int 4)) nilA)) (nameG 3)
    Q_read_row_1)
    (consS (setS 6 (fnE 1 (closeFn fn_read_figures) (consA (op2 ixD (varE 1) (constE (.int 0))) nilA)))
    (consS (setS 7 (fnE 1 (closeFn fn_read_figures) (consA (op2 ixD (varE 1) (constE (.int 1))) nilA)))
    (consS (tryS 1 (setS 8 (fnE 1 (closeFn fn_read_level) (consA (op2 ixD (varE 1) (constE (.int 2))) nilA))) badS)
    (consS (setS 9 (op2 ixD (varE 1) (constE (.int 3))))
    (consS (ifS (cmpT eqD (varE 9) (constE (.str [42])))
    (setS 9 (constE (.str [])))
    (ifS (orT (cmpT eqD (varE 9) (constE (.str []))) (notT (truT (fnE 1 (closeFn fn_is_name) (consA (varE 9) nilA)))))
    (raiseS 2)
    nilS))
    (consS (ifS (orT (cmpT eqD (varE 6) (constE (.int 0))) (cmpT gtD (callE lenF (consA (varE 2) nilA)) (constE c_WORDS_MOST)))
    (raiseS 2)
    nilS)
    (retS (tupE (consA (varE 6) (consA (tupE (consA (varE 7) (consA (varE 8) (consA (varE 9) (consA (varE 2) nilA))))) nilA)))))))))))))
def fn_read_row : Fn := runFn 10 B_read_row
def B_whole_rows : DS0 :=
  (retS (slE false (bmE tyStr (splitF false) (varE 0) (consA (constE (.str [10])) nilA)) noP (someP (op1 negD (constE (.int 1))))))
def fn_whole_rows : Fn := runFn 1 B_whole_rows
def Q_kept_rows_1 : DS0 :=
  (ifS (cmpT (inB false) (fnE 1 (closeFn fn_place) (consA (varE 3) nilA)) (methE 2 1 fn_Disk_files (varE 0) nilA))
    (setS 2 (op2 (addD false) (varE 2) (callE tupleF (consA (lcE false (seqI (fnE 1 (closeFn fn_whole_rows) (consA (methE 2 2 fn_Disk_text (varE 0) (consA (fnE 1 (closeFn fn_place) (consA (varE 3) nilA)) nilA)) nilA))) (nameG 4) yesT (fnE 1 (closeFn fn_read_row) (consA (varE 4) nilA)) [4]) nilA))))
    nilS)
def B_kept_rows : DS0 :=
  (consS (setS 2 (tupE nilA))
    (consS (forS (callI range3F (consA (varE 1) (consA (op1 negD (constE (.int 1))) (consA (op1 negD (constE (.int 1))) nilA)))) (nameG 3)
    Q_kept_rows_1)
    (retS (varE 2))))
def fn_kept_rows : Fn := runFn 5 B_kept_rows
def Q_Shelf_init_1 : DS0 :=
  (fldS att 11 (varE 0) (varE 4))
def B_Shelf_init : DS0 :=
  (consS (fldS att 8 (varE 0) (varE 1))
    (consS (fldS att 9 (varE 0) (varE 2))
    (consS (fldS att 10 (varE 0) (varE 3))
    (consS (exprS (methE 3 1 fn_Shelf_mend (varE 0) nilA))
    (consS (fldS att 11 (varE 0) (constE (.int 0)))
    (forS (seqI (fnE 2 fn_kept_rows (consA (varE 1) (consA (varE 3) nilA)))) (tupG 2 (consG (nameG 4) (consG (nameG 5) nilG)))
    Q_Shelf_init_1))))))
def fn_Shelf_init : Fn := runFn 6 B_Shelf_init
def B_day_of : DS0 :=
  (retS (op2 fdivD (varE 0) (constE c_DAY)))
def fn_day_of : Fn := runFn 1 B_day_of
def B_Shelf_is_full : DS0 :=
  (consS (ifS (orT (notT (truT (methE 3 2 fn_Shelf_there (varE 0) (consA (constE (.int 0)) nilA)))) (cmpT eqD (methE 2 2 fn_Disk_text (fldE att 8 (varE 0)) (consA (constE c_NAME) nilA)) (constE (.str []))))
    (retS (constE (.bl false)))
    nilS)
    (consS (setS 3 (methE 2 2 fn_Disk_text (fldE att 8 (varE 0)) (consA (constE c_NAME) nilA)))
    (consS (setS 4 (op2 ixD (fnE 1 (closeFn fn_read_row) (consA (op2 ixD (fnE 1 (closeFn fn_whole_rows) (consA (varE 3) nilA)) (constE (.int 0))) nilA)) (constE (.int 1))))
    (retS (orE (op2 gtD (op2 (addD false) (callE lenF (consA (varE 3) nilA)) (callE lenF (consA (varE 1) nilA))) (fldE att 9 (varE 0))) (op2 neD (fnE 1 (closeFn fn_day_of) (consA (op2 ixD (varE 4) (constE (.int 0))) nilA)) (fnE 1 (closeFn fn_day_of) (consA (op2 ixD (varE 2) (constE (.int 0))) nilA))))))))
def fn_Shelf_is_full : Fn := runFn 5 B_Shelf_is_full
def B_Shelf_turn : DS0 :=
  (consS (ifS (truT (methE 3 2 fn_Shelf_there (varE 0) (consA (fldE att 10 (varE 0)) nilA)))
    (exprS (methE 2 2 fn_Disk_drop (fldE att 8 (varE 0)) (consA (fnE 1 (closeFn fn_place) (consA (fldE att 10 (varE 0)) nilA)) nilA)))
    nilS)
    (consS (setS 1 (lcE false (callI range2F (consA (constE (.int 1)) (consA (op2 (addD false) (fldE att 10 (varE 0)) (constE (.int 1))) nilA))) (nameG 2) (notT (truT (methE 3 2 fn_Shelf_there (varE 0) (consA (varE 2) nilA)))) (varE 2) [2]))
    (exprS (methE 3 2 fn_Shelf_move_up (varE 0) (consA (op2 ixD (varE 1) (constE (.int 0))) nilA)))))
def fn_Shelf_turn : Fn := runFn 3 B_Shelf_turn
def B_row_of : DS0 :=
  (consS (asgS (tupG 4 (consG (nameG 2) (consG (nameG 3) (consG (nameG 4) (consG (nameG 5) nilG))))) (varE 1))
    (consS (setS 6 (varE 4))
    (consS (ifS (cmpT eqD (varE 4) (constE (.str [])))
    (setS 6 (constE (.str [42])))
    nilS)
    (retS (joinE (consJ (fmtE (varE 0)) (consJ (constE (.str [32])) (consJ (fmtE (varE 2)) (consJ (constE (.str [32])) (consJ (fmtE (fnE 1 (closeFn fn_level_word) (consA (varE 3) nilA))) (consJ (constE (.str [32])) (consJ (fmtE (varE 6)) (consJ (constE (.str [32])) (consJ (fmtE (varE 5)) nilJ))))))))))))))
def fn_row_of : Fn := runFn 7 B_row_of
def B_Shelf_write : DS0 :=
  (consS (ifS (cmpT leD (varE 1) (fldE att 11 (varE 0)))
    (retS (constE (.bl false)))
    nilS)
    (consS (setS 3 (op2 (addD false) (fnE 2 (closeFn fn_row_of) (consA (varE 1) (consA (varE 2) nilA))) (constE (.str [10]))))
    (consS (ifS (truT (methE 3 3 fn_Shelf_is_full (varE 0) (consA (varE 3) (consA (varE 2) nilA))))
    (exprS (methE 3 1 fn_Shelf_turn (varE 0) nilA))
    nilS)
    (consS (exprS (methE 2 3 fn_Disk_put_behind (fldE att 8 (varE 0)) (consA (constE c_NAME) (consA (varE 3) nilA))))
    (consS (fldS att 11 (varE 0) (varE 1))
    (retS (constE (.bl true))))))))
def fn_Shelf_write : Fn := runFn 4 B_Shelf_write
def B__law_cell : DS0 :=
  (consS (ifS (cmpT ltD (varE 1) (callE lenF (consA (varE 0) nilA)))
    (retS (op2 ixD (varE 0) (varE 1)))
    nilS)
    (retS (constE (.int 0))))
def fn__law_cell : Fn := runFn 2 B__law_cell
def B__law_d : DS0 :=
  (consS (setS 3 (op2 modD (op2 (addD false) (varE 0) (op2 (mulD false) (constE (.int 104729)) (varE 1))) (constE (.int 4294967291))))
    (consS (setS 3 (op2 modD (op2 (mulD false) (op2 modD (op2 (mulD false) (varE 3) (varE 3)) (constE (.int 4294967279))) (constE (.int 48271))) (constE (.int 4294967291))))
    (retS (op2 modD (op2 fdivD (varE 3) (constE (.int 64))) (varE 2)))))
def fn__law_d : Fn := runFn 4 B__law_d
def B__law_draw : DS0 :=
  (consS (exprS (bmE tyLst appendF (varE 1) (consA (constE (.int 0)) nilA)))
    (consS (setS 3 (callE lenF (consA (varE 1) nilA)))
    (consS (setS 4 (constE (.int 0)))
    (consS (ifS (truT (varE 0))
    (setS 4 (op2 ixD (varE 0) (op2 modD (varE 3) (callE lenF (consA (varE 0) nilA)))))
    nilS)
    (consS (setS 5 (op2 modD (op2 (addD false) (varE 4) (op2 (mulD false) (constE (.int 104729)) (varE 3))) (constE (.int 4294967291))))
    (consS (setS 5 (op2 modD (op2 (mulD false) (op2 modD (op2 (mulD false) (varE 5) (varE 5)) (constE (.int 4294967279))) (constE (.int 48271))) (constE (.int 4294967291))))
    (consS (setS 6 (op2 modD (op2 (mulD false) (op2 modD (op2 (mulD false) (varE 5) (varE 5)) (constE (.int 4294967279))) (constE (.int 69621))) (constE (.int 4294967291))))
    (retS (op2 modD (op2 (addD false) (op2 (mulD false) (op2 fdivD (varE 5) (constE (.int 64))) (constE (.int 67108864))) (op2 fdivD (varE 6) (constE (.int 64)))) (varE 2))))))))))
def fn__law_draw : Fn := runFn 7 B__law_draw
def B__law_pick : DS0 :=
  (retS (op2 ixD (varE 2) (fnE 3 fn__law_draw (consA (varE 0) (consA (varE 1) (consA (callE lenF (consA (varE 2) nilA)) nilA))))))
def fn__law_pick : Fn := runFn 3 B__law_pick
-- a group that calls itself: _law_same
def B__law_same (r__law_same : Fn) : DS0 :=
  (consS (ifS (cmpT isNoneD (varE 1) (constE .non))
    (retS (op2 isNoneD (varE 0) (constE .non)))
    nilS)
    (consS (ifS (truT (op1 (isiD 1) (varE 1)))
    (retS (andE (op1 (isiD 1) (varE 0)) (op2 eqD (varE 0) (varE 1))))
    nilS)
    (consS (ifS (truT (op1 (isiD 4) (varE 1)))
    (consS (ifS (orT (notT (truT (op1 (isiD 4) (varE 0)))) (cmpT neD (callE lenF (consA (varE 0) nilA)) (callE lenF (consA (varE 1) nilA))))
    (retS (constE (.bl false)))
    nilS)
    (retS (callE allF (consA (lcE false (callI zipF (consA (varE 0) (consA (varE 1) nilA))) (tupG 2 (consG (nameG 2) (consG (nameG 3) nilG))) yesT (fnE 2 (closeFn r__law_same) (consA (varE 2) (consA (varE 3) nilA))) [2, 3]) nilA))))
    nilS)
    (consS (ifS (truT (op1 (isiD 3) (varE 1)))
    (retS (andE (op1 (isiD 3) (varE 0)) (op2 eqD (varE 0) (varE 1))))
    nilS)
    (retS (andE (op1 (isiD 2) (varE 0)) (andE (notE (op1 (isiD 1) (varE 0))) (op2 eqD (varE 0) (varE 1)))))))))
def fn__law_same : Nat → Fn
  | 0 => fun _ _ => .bad
  | n + 1 => runFn 4 (B__law_same (fn__law_same n))
def Q_send_once_1 : DS0 :=
  (exprS (methE 3 3 fn_Shelf_write (varE 4) (consA (op2 (addD false) (varE 5) (constE (.int 1))) (consA (varE 6) nilA))))
def B_send_once : DS0 :=
  (consS (tryS 8 (consS (setS 4 (makeE 3 4 fn_Shelf_init (consA (varE 0) (consA (varE 1) (consA (varE 2) nilA)))))
    (forS (callI enumF (consA (varE 3) nilA)) (tupG 2 (consG (nameG 5) (consG (nameG 6) nilG)))
    Q_send_once_1)) (retS (constE (.bl false))))
    (retS (constE (.bl true))))
def fn_send_once : Fn := runFn 7 B_send_once
def Q_delivered_1 : DS0 :=
  (setS 4 (op2 (addD false) (varE 4) (constE (.int 1))))
def B_delivered : DS0 :=
  (consS (setS 4 (constE (.int 0)))
    (consS (whileS 100000 (notT (truT (fnE 4 fn_send_once (consA (varE 0) (consA (varE 1) (consA (varE 2) (consA (varE 3) nilA)))))))
    Q_delivered_1)
    (retS (varE 4))))
def fn_delivered : Fn := runFn 5 B_delivered
def Q_form_text_1 : DS0 :=
  (ifS (cmpT eqD (op2 ixD (varE 2) (constE (.int 0))) (constE (.str [116, 101, 120, 116])))
    (setS 1 (op2 (addD false) (varE 1) (replE [125] [125, 125] (replE [123] [123, 123] (op2 ixD (varE 2) (constE (.int 1)))))))
    (ifS (cmpT eqD (op2 ixD (varE 2) (constE (.int 2))) (constE (.str [])))
    (setS 1 (op2 (addD false) (op2 (addD false) (op2 (addD false) (varE 1) (constE (.str [123]))) (op2 ixD (varE 2) (constE (.int 1)))) (constE (.str [125]))))
    (setS 1 (op2 (addD false) (op2 (addD false) (op2 (addD false) (op2 (addD false) (op2 (addD false) (varE 1) (constE (.str [123]))) (op2 ixD (varE 2) (constE (.int 1)))) (op2 ixD (varE 2) (constE (.int 2)))) (callE strF (consA (op2 ixD (varE 2) (constE (.int 3))) nilA))) (constE (.str [125]))))))
def B_form_text : DS0 :=
  (consS (setS 1 (constE (.str [])))
    (consS (forS (seqI (varE 0)) (nameG 2)
    Q_form_text_1)
    (retS (varE 1))))
def fn_form_text : Fn := runFn 3 B_form_text
def Q_short_1 : DS0 :=
  (setS 3 (op2 (addD false) (varE 3) (constE (.int 1))))
def Q_short_2 : DS0 :=
  (consS (setS 3 (constE (.int 0)))
    (consS (whileS 100000 (andT (cmpT ltD (op2 (addD false) (op2 (addD false) (varE 2) (varE 3)) (constE (.int 1))) (callE lenF (consA (varE 0) nilA))) (cmpT eqD (op2 ixD (varE 0) (op2 (addD false) (op2 (addD false) (varE 2) (varE 3)) (constE (.int 1)))) (op2 ixD (varE 0) (varE 2))))
    Q_short_1)
    (consS (exprS (bmE tyLst appendF (varE 1) (consA (op2 (addD false) (constE (.str [61])) (op2 ixD (varE 0) (varE 2))) nilA)))
    (consS (ifS (cmpT gtD (varE 3) (constE (.int 0)))
    (exprS (bmE tyLst appendF (varE 1) (consA (joinE (consJ (constE (.str [43])) (consJ (fmtE (varE 3)) nilJ))) nilA)))
    nilS)
    (setS 2 (op2 (addD false) (op2 (addD false) (varE 2) (varE 3)) (constE (.int 1))))))))
def B_short : DS0 :=
  (consS (setS 1 (lstE true nilA))
    (consS (setS 2 (constE (.int 0)))
    (consS (whileS 100000 (cmpT ltD (varE 2) (callE lenF (consA (varE 0) nilA)))
    Q_short_2)
    (retS (callE tupleF (consA (varE 1) nilA))))))
def fn_short : Fn := runFn 4 B_short
def B_times_of : DS0 :=
  (consS (setS 1 (slE false (varE 0) (someP (constE (.int 1))) noP))
    (consS (ifS (orT (cmpT neD (slE false (varE 0) noP (someP (constE (.int 1)))) (constE (.str [43]))) (orT (notT (chainT leD leD (constE (.int 1)) (callE lenF (consA (varE 1) nilA)) (constE (.int 3)))) (notT (truT (callE allF (consA (lcE false (seqI (varE 1)) (nameG 2) yesT (op2 (inB false) (varE 2) (constE (.str [48, 49, 50, 51, 52, 53, 54, 55, 56, 57]))) [2]) nilA))))))
    (raiseS 2)
    nilS)
    (consS (ifS (cmpT eqD (op2 ixD (varE 1) (constE (.int 0))) (constE (.str [48])))
    (raiseS 2)
    nilS)
    (retS (callE intF (consA (varE 1) nilA))))))
def fn_times_of : Fn := runFn 3 B_times_of
def Q_long_1 : DS0 :=
  (ifS (cmpT eqD (slE false (varE 2) noP (someP (constE (.int 1)))) (constE (.str [61])))
    (setS 1 (op2 (addD false) (varE 1) (tupE (consA (slE false (varE 2) (someP (constE (.int 1))) noP) nilA))))
    (consS (setS 3 (fnE 1 (closeFn fn_times_of) (consA (varE 2) nilA)))
    (consS (ifS (orT (notT (truT (varE 1))) (cmpT gtD (op2 (addD false) (callE lenF (consA (varE 1) nilA)) (varE 3)) (constE c_TEXTS_MOST)))
    (raiseS 2)
    nilS)
    (setS 1 (op2 (addD false) (varE 1) (op2 mulTD (tupE (consA (op2 ixD (varE 1) (op1 negD (constE (.int 1)))) nilA)) (varE 3)))))))
def B_long : DS0 :=
  (consS (setS 1 (tupE nilA))
    (consS (forS (seqI (varE 0)) (nameG 2)
    Q_long_1)
    (consS (ifS (orT (cmpT gtD (callE lenF (consA (varE 1) nilA)) (constE c_TEXTS_MOST)) (cmpT neD (fnE 1 (closeFn fn_short) (consA (varE 1) nilA)) (callE tupleF (consA (varE 0) nilA))))
    (raiseS 2)
    nilS)
    (retS (varE 1)))))
def fn_long : Fn := runFn 4 B_long
def B_looked_up : DS0 :=
  (consS (setS 3 (fnE 1 (closeFn fn_read_gate) (consA (varE 2) nilA)))
    (retS (callE tupleF (consA (lcE false (seqI (fnE 2 fn_kept_rows (consA (varE 0) (consA (varE 1) nilA)))) (tupG 2 (consG (nameG 4) (consG (nameG 5) nilG))) (truT (fnE 2 (closeFn (fn_passes 100)) (consA (varE 3) (consA (varE 5) nilA)))) (varE 5) [4, 5]) nilA))))
def fn_looked_up : Fn := runFn 6 B_looked_up
def Q_merged_1 : DS0 :=
  (exprS (bmE tyLst appendF (varE 1) (consA (tupE (consA (op2 ixD (varE 5) (constE (.int 0))) (consA (varE 2) (consA (varE 4) nilA)))) nilA)))
def Q_merged_2 : DS0 :=
  (forS (callI enumF (consA (varE 3) nilA)) (tupG 2 (consG (nameG 4) (consG (nameG 5) nilG)))
    Q_merged_1)
def B_merged : DS0 :=
  (consS (setS 1 (lstE true nilA))
    (consS (forS (callI enumF (consA (varE 0) nilA)) (tupG 2 (consG (nameG 2) (consG (nameG 3) nilG)))
    Q_merged_2)
    (retS (callE tupleF (consA (lcE false (seqI (callE (sortedF false) (consA (varE 1) nilA))) (tupG 3 (consG (nameG 6) (consG (nameG 2) (consG (nameG 4) nilG)))) yesT (op2 ixD (op2 ixD (varE 0) (varE 2)) (varE 4)) [6, 2, 4]) nilA)))))
def fn_merged : Fn := runFn 7 B_merged
def B_strength : DS0 :=
  (consS (ifS (cmpT eqD (op2 ixD (varE 0) (constE (.int 0))) (constE (.str [111, 114])))
    (retS (constE (.int 0)))
    nilS)
    (consS (ifS (cmpT eqD (op2 ixD (varE 0) (constE (.int 0))) (constE (.str [97, 110, 100])))
    (retS (constE (.int 1)))
    nilS)
    (retS (constE (.int 2)))))
def fn_strength : Fn := runFn 1 B_strength
-- a group that calls itself: shown_within shown
def B_shown_within (r_shown_within : Fn) (r_shown : Fn) : DS0 :=
  (consS (ifS (cmpT ltD (fnE 1 (closeFn fn_strength) (consA (varE 0) nilA)) (varE 1))
    (retS (joinE (consJ (constE (.str [40])) (consJ (fmtE (fnE 1 (closeFn r_shown) (consA (varE 0) nilA))) (consJ (constE (.str [41])) nilJ)))))
    nilS)
    (retS (fnE 1 (closeFn r_shown) (consA (varE 0) nilA))))
def B_shown (r_shown_within : Fn) (r_shown : Fn) : DS0 :=
  (consS (setS 1 (op2 ixD (varE 0) (constE (.int 0))))
    (consS (ifS (cmpT (inB false) (varE 1) (tupE (consA (constE (.str [121, 101, 115])) (consA (constE (.str [110, 111])) nilA))))
    (retS (varE 1))
    nilS)
    (consS (ifS (cmpT eqD (varE 1) (constE (.str [108, 101, 118, 101, 108])))
    (retS (joinE (consJ (constE (.str [108, 101, 118, 101, 108, 32])) (consJ (fmtE (op2 ixD (varE 0) (constE (.int 1)))) nilJ))))
    nilS)
    (consS (ifS (cmpT eqD (varE 1) (constE (.str [117, 110, 100, 101, 114])))
    (retS (op2 (addD false) (constE (.str [117, 110, 100, 101, 114, 32])) (orE (op2 ixD (varE 0) (constE (.int 1))) (constE (.str [42])))))
    nilS)
    (consS (ifS (cmpT eqD (varE 1) (constE (.str [104, 97, 115])))
    (retS (joinE (consJ (constE (.str [104, 97, 115, 32, 39])) (consJ (fmtE (op2 ixD (varE 0) (constE (.int 1)))) (consJ (constE (.str [39])) nilJ)))))
    nilS)
    (consS (ifS (cmpT eqD (varE 1) (constE (.str [110, 111, 116])))
    (retS (joinE (consJ (constE (.str [110, 111, 116, 32])) (consJ (fmtE (fnE 2 (closeFn r_shown_within) (consA (op2 ixD (varE 0) (constE (.int 1))) (consA (constE (.int 2)) nilA)))) nilJ))))
    nilS)
    (consS (setS 2 (fnE 1 (closeFn fn_strength) (consA (varE 0) nilA)))
    (retS (joinE (consJ (fmtE (fnE 2 (closeFn r_shown_within) (consA (op2 ixD (varE 0) (constE (.int 1))) (consA (varE 2) nilA)))) (consJ (constE (.str [32])) (consJ (fmtE (varE 1)) (consJ (constE (.str [32])) (consJ (fmtE (fnE 2 (closeFn r_shown_within) (consA (op2 ixD (varE 0) (constE (.int 2))) (consA (op2 (addD false) (varE 2) (constE (.int 1))) nilA)))) nilJ))))))))))))))
def grp_shown_within : Nat → Fn × Fn
  | 0 => (fun _ _ => .bad, fun _ _ => .bad)
  | n + 1 => let g := grp_shown_within n; (runFn 2 (B_shown_within g.1 g.2), runFn 3 (B_shown g.1 g.2))
def fn_shown_within (n : Nat) : Fn := (grp_shown_within n).1
def fn_shown (n : Nat) : Fn := (grp_shown_within n).2
end Dn.Lib
set_option linter.all false
set_option maxRecDepth 100000
namespace Dn
open PySem
/-! ### laws' common words: lemmas -/
theorem close_ok {fn : Fn} {ds : List D} {O O' : Sto} {d : D} (h1 : noObL ds = true) (h2 : fn ds [] = .ok d O') (h3 : noOb d = true) : closeFn fn ds O = .ok d O := by
  unfold closeFn
  rw [if_pos h1, h2]
  simp [h3]
theorem law_d_eq (c s m : Int) (O : Sto) (hm : 0 < m) : Lib.fn__law_d [.int c, .int s, .int m] O = .ok (.int (lawD c s m)) O := by
  have h1 : mulOk 104729 s = true := by simp [mulOk]
  have h2 : ∀ n : Int, mulOk (n % 4294967291) (n % 4294967291) = true := fun n => by simp [mulOk]; omega
  have h3 : ∀ n : Int, mulOk (n % 4294967279) 48271 = true := fun n => by simp [mulOk]
  simp [Lib.fn__law_d, runFn, Lib.B__law_d, consS, setS, retS, op2, varE, constE, mulD, addD, modD, fdivD, bind_ok, bindS_ok, bind_nx, h1, h2, h3, hm, lawD]
theorem law_d_c (c s m : Int) (O : Sto) (hm : 0 < m) : closeFn Lib.fn__law_d [.int c, .int s, .int m] O = .ok (.int (lawD c s m)) O :=
  close_ok (by simp [noObL, noOb]) (law_d_eq c s m [] hm) rfl
theorem lawD_range (c s m : Int) (hm : 0 < m) : 0 ≤ lawD c s m ∧ lawD c s m < m := by
  unfold lawD
  exact ⟨Int.emod_nonneg _ (by omega), Int.emod_lt_of_pos _ hm⟩
/-- data that the laws' word for sameness takes -/
def sameOk : Nat → D → Bool
  | 0, _ => false
  | n + 1, d => match d with
    | .tup ds => decide (ds.length ≤ 1000000) && ds.all (sameOk n)
    | .lst _ => false | .scr _ => false | .ob _ => false
    | _ => true
theorem sameOk_noOb : ∀ (n : Nat) (d : D), sameOk n d = true → noOb d = true
  | 0, _, h => by simp [sameOk] at h
  | n + 1, d, h => by
    cases d <;> simp [sameOk] at h <;> simp [noOb]
    rename_i ds
    have : ∀ l : List D, (∀ x ∈ l, sameOk n x = true) → noObL l = true := by
      intro l
      induction l with
      | nil => intro _; rfl
      | cons a l ih => intro hl; simp only [noObL, Bool.and_eq_true]; exact ⟨sameOk_noOb n a (hl a (by simp)), ih fun x hx => hl x (by simp [hx])⟩
    exact this ds h.2
theorem lc_same {fn : Fn} {st : List (Nat × List D)} {r : Rho} (hr : ∃ a b, r = [a, b, none, none]) (hst : ∀ O, stillOk st O = true) : ∀ (ds acc : List D) (O : Sto), (∀ d ∈ ds, closeFn fn [d, d] O = .ok (.bl true) O) → acc.length + ds.length ≤ 16777216 →
    lcL (tupG 2 (consG (nameG 2) (consG (nameG 3) nilG))) yesT (fnE 2 (closeFn fn) (consA (varE 2) (consA (varE 3) nilA))) st r (zipD ds ds) acc O = .ok (acc ++ ds.map fun _ => D.bl true) O
  | [], acc, O, _, _ => by simp [zipD, lcL, hst]
  | d :: ds, acc, O, h, hl => by
    obtain ⟨a, b, rfl⟩ := hr
    have hd := h d (by simp)
    have ih := lc_same (fn := fn) (st := st) (r := [a, b, none, none]) ⟨a, b, rfl⟩ hst ds (acc ++ [D.bl true]) O (fun x hx => h x (by simp [hx])) (by simp at hl ⊢; omega)
    simp only [List.length_cons] at hl
    have hz : acc.length < sizeLine := by show acc.length < 2 ^ 24; omega
    simp [zipD, lcL, hst, tupG, seqR, consG, nameG, nilG, yesT, fnE, consA, varE, nilA, bind_ok, hd, hz, ih]
theorem bls_true (ds : List D) : bls (ds.map fun _ => D.bl true) = some (ds.map fun _ => true) := by
  induction ds with
  | nil => rfl
  | cons a l ih => simp [bls, blD, ih]
theorem eqv_refl_flat {d : D} (h : flatD d = true) : eqv d d = true := by
  cases d <;> simp [flatD] at h <;> simp [eqv]
theorem same_ok : ∀ (n : Nat) (d : D) (O : Sto), sameOk n d = true → Lib.fn__law_same n [d, d] O = .ok (.bl true) O
  | 0, _, _, h => by simp [sameOk] at h
  | n + 1, d, O, h => by
    cases d with
    | lst ds => simp [sameOk] at h
    | scr ds => simp [sameOk] at h
    | ob ds => simp [sameOk] at h
    | non => simp [Lib.fn__law_same, runFn, Lib.B__law_same, consS, ifS, cmpT, op2, isNoneD, varE, constE, bind_ok, asB, bindS_ok, retS, isND, bind_ret]
    | bl b => simp [Lib.fn__law_same, runFn, Lib.B__law_same, consS, ifS, cmpT, op2, op1, isNoneD, varE, constE, bind_ok, asB, bindS_ok, retS, isND, bind_ret, bind_nx, nilS, truT, truD, isiD, tyD, isTy, andE, eqD, quick, eqv]
    | int b => simp [Lib.fn__law_same, runFn, Lib.B__law_same, consS, ifS, cmpT, op2, op1, isNoneD, varE, constE, bind_ok, asB, bindS_ok, retS, isND, bind_ret, bind_nx, nilS, truT, truD, isiD, tyD, isTy, andE, notE, eqD, quick, eqv]
    | str b => simp [Lib.fn__law_same, runFn, Lib.B__law_same, consS, ifS, cmpT, op2, op1, isNoneD, varE, constE, bind_ok, asB, bindS_ok, retS, isND, bind_ret, bind_nx, nilS, truT, truD, isiD, tyD, isTy, andE, notE, eqD, quick, eqv]
    | tup ds =>
      simp only [sameOk, Bool.and_eq_true, decide_eq_true_eq] at h
      have hall := List.all_eq_true.mp h.2
      have hd : ∀ d ∈ ds, closeFn (Lib.fn__law_same n) [d, d] O = .ok (.bl true) O := fun d hd => by
        have q := sameOk_noOb n d (hall d hd)
        exact close_ok (by simp [noObL, q]) (same_ok n d [] (hall d hd)) rfl
      have lc := lc_same (fn := Lib.fn__law_same n) (st := []) (r := [some (.tup ds), some (.tup ds), none, none]) ⟨_, _, rfl⟩ (fun _ => rfl) ds [] O hd (by simp; omega)
      simp [Lib.fn__law_same, runFn, Lib.B__law_same, consS, ifS, cmpT, op2, op1, isNoneD, varE, constE, bind_ok, asB, bindS_ok, retS, isND, bind_ret, bind_nx, nilS, truT, truD, isiD, tyD, isTy, orT, notT, callE, consA, nilA, lenF, lenD, seqR, neD, quick, eqv,
        lcE, callI, zipF, wipeR, lc, mkL, allF, listR, listS, bls_true]
theorem same_c (n : Nat) (d : D) (O : Sto) (h : sameOk n d = true) : closeFn (Lib.fn__law_same n) [d, d] O = .ok (.bl true) O := by
  have q := sameOk_noOb n d h
  exact close_ok (by simp [noObL, q]) (same_ok n d [] h) rfl
end Dn
set_option linter.all false
set_option maxRecDepth 100000
namespace Dn
open PySem
/-! ### evaluation, by simp -/
section
variable {f g h : DE0} {fs gs : DS0} {c d : Rho → Sto → Res Bool} {fas : Rho → Sto → Res (List D)} {r : Rho} {O : Sto}
@[simp] theorem bind_ok' {α γ : Type} (a : α) (O : Sto) (k : α → Sto → Res γ) : (Res.ok a O).bind k = k a O := rfl
@[simp] theorem bind_ex' {α γ : Type} (e : Er) (O : Sto) (k : α → Sto → Res γ) : (Res.exc e O : Res α).bind k = .exc e O := rfl
@[simp] theorem bindS_ok' {α : Type} (a : α) (O : Sto) (r : Rho) (k : α → Sto → SR) : (Res.ok a O).bindS r k = k a O := rfl
@[simp] theorem bindS_ex' {α : Type} (e : Er) (O : Sto) (r : Rho) (k : α → Sto → SR) : (Res.exc e O : Res α).bindS r k = .exc e r O := rfl
@[simp] theorem bind_nx' (r : Rho) (O : Sto) (k : Rho → Sto → SR) : (SR.nx r O).bind k = k r O := rfl
@[simp] theorem bind_ret' (d : D) (O : Sto) (k : Rho → Sto → SR) : (SR.ret d O).bind k = .ret d O := rfl
@[simp] theorem bind_exc' (e : Er) (r : Rho) (O : Sto) (k : Rho → Sto → SR) : (SR.exc e r O).bind k = .exc e r O := rfl
@[simp] theorem bind_ct' (r : Rho) (O : Sto) (k : Rho → Sto → SR) : (SR.ct r O).bind k = .ct r O := rfl
@[simp] theorem bind_bk' (r : Rho) (O : Sto) (k : Rho → Sto → SR) : (SR.bk r O).bind k = .bk r O := rfl
@[simp] theorem ev_var {i : Nat} {d : D} (e : r[i]? = some (some d)) : varE i r O = .ok d O := by unfold varE; rw [e]
theorem ev_var' (i : Nat) (r : Rho) (O : Sto) : varE i r O = match r[i]? with | some (some d) => .ok d O | _ => .bad := rfl
@[simp] theorem ev_const (d : D) : constE d r O = .ok d O := rfl
@[simp] theorem ev_op2 (o : O2) : op2 o f g r O = (f r O).bind fun a O1 => (g r O1).bind fun b O2 => o a b O2 := rfl
@[simp] theorem ev_op1 (o : O1) : op1 o f r O = (f r O).bind fun a O1 => o a O1 := rfl
@[simp] theorem ev_truT : truT f r O = (f r O).bind truD := rfl
@[simp] theorem ev_cmpT (o : O2) : cmpT o f g r O = ((f r O).bind fun a O1 => (g r O1).bind fun b O2 => o a b O2).bind asB := rfl
@[simp] theorem ev_asB (b : Bool) : asB (.bl b) O = .ok b O := rfl
@[simp] theorem ev_andT : andT c d r O = (c r O).bind fun k O1 => if k then d r O1 else .ok false O1 := rfl
@[simp] theorem ev_orT : orT c d r O = (c r O).bind fun k O1 => if k then .ok true O1 else d r O1 := rfl
@[simp] theorem ev_notT : notT c r O = (c r O).bind fun k O1 => .ok (!k) O1 := rfl
@[simp] theorem ev_andE : andE f g r O = (f r O).bind fun d O1 => (truD d O1).bind fun k O2 => if k then g r O2 else .ok d O2 := rfl
@[simp] theorem ev_orE : orE f g r O = (f r O).bind fun d O1 => (truD d O1).bind fun k O2 => if k then .ok d O2 else g r O2 := rfl
@[simp] theorem ev_notE : notE f r O = (f r O).bind fun d O1 => (truD d O1).bind fun k O2 => .ok (.bl (!k)) O2 := rfl
@[simp] theorem ev_ifE : ifE c f g r O = (c r O).bind fun k O1 => if k then f r O1 else g r O1 := rfl
@[simp] theorem ev_chainT (o o' : O2) : chainT o o' f g h r O = (chainE o o' f g h r O).bind asB := rfl
@[simp] theorem ev_chainE (o o' : O2) : chainE o o' f g h r O = (f r O).bind fun a O1 => (g r O1).bind fun b O2 => (o a b O2).bind fun z O3 => (asB z O3).bind fun k O4 => if k then (h r O4).bind fun c O5 => o' b c O5 else .ok (.bl false) O4 := rfl
@[simp] theorem ev_nilA : nilA r O = .ok [] O := rfl
@[simp] theorem ev_consA : consA f fas r O = (f r O).bind fun d O1 => (fas r O1).bind fun ds O2 => .ok (d :: ds) O2 := rfl
@[simp] theorem ev_tupE : tupE fas r O = (fas r O).bind fun ds O1 => if ds.length ≤ sizeLine then .ok (.tup ds) O1 else .bad := rfl
@[simp] theorem ev_lstE (m : Bool) : lstE m fas r O = (fas r O).bind fun ds O1 => if ds.length ≤ sizeLine then mkL m ds O1 else .bad := rfl
@[simp] theorem ev_mkF (ds : List D) : mkL false ds O = .ok (.lst ds) O := rfl
@[simp] theorem ev_mkT (ds : List D) : mkL true ds O = .ok (.ob O.length) (O ++ [.lst ds]) := rfl
@[simp] theorem ev_slE (m : Bool) (l u : Rho → Sto → Res (Option Int)) : slE m f l u r O = (f r O).bind fun d O1 => (l r O1).bind fun lo O2 => (u r O2).bind fun hi O3 => slD m d lo hi O3 := rfl
@[simp] theorem ev_noP : noP r O = .ok none O := rfl
@[simp] theorem ev_someP : someP f r O = (f r O).bind asP := rfl
@[simp] theorem ev_asP (i : Int) : asP (.int i) O = .ok (some i) O := rfl
@[simp] theorem ev_callE (F : List D → Sto → ER) : callE F fas r O = (fas r O).bind F := rfl
@[simp] theorem ev_fnE (n : Nat) (F : Fn) : fnE n F fas r O = (fas r O).bind fun ds O1 => if ds.length = n then F ds O1 else .bad := rfl
@[simp] theorem ev_bmE (ty : D → Sto → Bool) (F : D → List D → Sto → ER) : bmE ty F f fas r O = (f r O).bind fun d O1 => if ty d O1 then (fas r O1).bind fun ds O2 => F d ds O2 else .bad := rfl
@[simp] theorem ev_methE (k n : Nat) (F : Fn) : methE k n F f fas r O = (f r O).bind fun d O1 => match d with
  | .ob l => (match O1[l]? with
    | some (.ins c' _) => if c' = k then (fas r O1).bind fun ds O2 => if ds.length + 1 = n then F (.ob l :: ds) O2 else .bad else .bad
    | _ => .bad)
  | _ => .bad := rfl
@[simp] theorem ev_makeE (k n : Nat) (F : Fn) : makeE k n F fas r O = (fas r O).bind fun ds O1 => if ds.length + 1 = n then (F (.ob O1.length :: ds) (O1 ++ [.ins k []])).bind (asNon O1.length) else .bad := rfl
@[simp] theorem ev_asNon (l : Nat) : asNon l .non O = .ok (.ob l) O := rfl
@[simp] theorem ev_fldE (a : Nat → Nat → Bool) (n : Nat) : fldE a n f r O = (f r O).bind fun d O1 => match d with
  | .ob l => (match O1[l]? with
    | some (.ins c fs) => if a c n then (match getFD n fs with | some d => .ok d O1 | none => .bad) else .bad
    | _ => .bad)
  | _ => .bad := rfl
@[simp] theorem ev_fldS (a : Nat → Nat → Bool) (n : Nat) : fldS a n f g r O = (g r O).bindS r fun d O1 => (f r O1).bindS r fun o O2 => match o with
  | .ob l => (match O2[l]? with
    | some (.ins c fs) => if a c n && decide (fs.length < 1000) then .nx r (O2.set l (.ins c (putFD n d fs))) else .bad
    | _ => .bad)
  | _ => .bad := rfl
@[simp] theorem ev_consS : consS fs gs r O = (fs r O).bind gs := rfl
@[simp] theorem ev_nilS : nilS r O = .nx r O := rfl
@[simp] theorem ev_exprS : exprS f r O = (f r O).bindS r fun _ O1 => .nx r O1 := rfl
@[simp] theorem ev_contS : contS r O = .ct r O := rfl
@[simp] theorem ev_retS : retS f r O = (f r O).bindS r fun d O1 => .ret d O1 := rfl
@[simp] theorem ev_retN : retN r O = .ret .non O := rfl
@[simp] theorem ev_ifS : ifS c fs gs r O = (c r O).bindS r fun k O1 => if k then fs r O1 else gs r O1 := rfl
@[simp] theorem ev_setS (i : Nat) : setS i f r O = (f r O).bindS r fun d O1 => .nx (r.set i (some d)) O1 := rfl
@[simp] theorem ev_asgS (t : TG0) : asgS t f r O = (f r O).bindS r fun d O1 => match t d r O1 with | some (r', O') => .nx r' O' | none => .bad := rfl
@[simp] theorem ev_nameG (i : Nat) (d : D) : nameG i d r O = some (r.set i (some d), O) := rfl
@[simp] theorem ev_nilG : nilG [] r O = some (r, O) := rfl
@[simp] theorem ev_consG (t : TG0) (ts : TGs0) (d : D) (ds : List D) : consG t ts (d :: ds) r O = match t d r O with | some (r1, O1) => ts ds r1 O1 | none => none := rfl
@[simp] theorem ev_tupG (n : Nat) (ts : TGs0) (ds : List D) : tupG n ts (.tup ds) r O = if ds.length = n then ts ds r O else none := rfl
@[simp] theorem ev_subG (d : D) : subG f g d r O = match f r O with
  | .ok a O1 => (match g r O1 with | .ok b O2 => (match stoD a b d O2 with | some O3 => some (r, O3) | none => none) | _ => none)
  | _ => none := rfl
@[simp] theorem ev_forS (src : Rho → Sto → Res Src) (t : TG0) : forS src t fs r O = (src r O).bindS r fun s O1 => forL t fs s.still s.items r O1 := rfl
@[simp] theorem ev_callI (F : List D → Sto → Res Src) : callI F fas r O = (fas r O).bind F := rfl
@[simp] theorem ev_seqI : seqI f r O = (f r O).bind srcD := rfl
@[simp] theorem ev_lcE (m : Bool) (src : Rho → Sto → Res Src) (t : TG0) (own : List Nat) : lcE m src t c f own r O = (src r O).bind fun s O1 => (lcL t c f s.still (wipeR r own) s.items [] O1).bind fun ds O2 => mkL m ds O2 := rfl
@[simp] theorem ev_yesT : yesT r O = .ok true O := rfl
/-! operations -/
@[simp] theorem op_addI (m : Bool) (i j : Int) : addD m (.int i) (.int j) O = .ok (.int (i + j)) O := rfl
@[simp] theorem op_addS (m : Bool) (x y : List Nat) : addD m (.str x) (.str y) O = if x.length + y.length ≤ sizeLine then .ok (.str (x ++ y)) O else .bad := rfl
@[simp] theorem op_addT (m : Bool) (x y : List D) : addD m (.tup x) (.tup y) O = if x.length + y.length ≤ sizeLine then .ok (.tup (x ++ y)) O else .bad := rfl
@[simp] theorem op_addL (m : Bool) (x y : List D) : addD m (.lst x) (.lst y) O = if x.length + y.length ≤ sizeLine then mkL m (x ++ y) O else .bad := rfl
@[simp] theorem op_subI (i j : Int) : subD (.int i) (.int j) O = .ok (.int (i - j)) O := rfl
@[simp] theorem op_modI (i j : Int) : modD (.int i) (.int j) O = if 0 < j then .ok (.int (i % j)) O else .bad := rfl
@[simp] theorem op_fdivI (i j : Int) : fdivD (.int i) (.int j) O = if 0 < j ∧ j < 1073741824 then .ok (.int (i / j)) O else .bad := rfl
@[simp] theorem op_negI (i : Int) : negD (.int i) O = .ok (.int (-i)) O := rfl
@[simp] theorem op_mulI (m : Bool) (i j : Int) : mulD m (.int i) (.int j) O = if mulOk i j then .ok (.int (i * j)) O else .bad := rfl
@[simp] theorem op_ltI (i j : Int) : ltD (.int i) (.int j) O = .ok (.bl (decide (i < j))) O := rfl
@[simp] theorem op_leI (i j : Int) : leD (.int i) (.int j) O = .ok (.bl (decide (i ≤ j))) O := rfl
@[simp] theorem op_gtI (i j : Int) : gtD (.int i) (.int j) O = .ok (.bl (decide (j < i))) O := rfl
@[simp] theorem op_geI (i j : Int) : geD (.int i) (.int j) O = .ok (.bl (decide (j ≤ i))) O := rfl
@[simp] theorem op_eqI (i j : Int) : eqD (.int i) (.int j) O = .ok (.bl (i == j)) O := by simp [eqD, quick, eqv]
@[simp] theorem op_neI (i j : Int) : neD (.int i) (.int j) O = .ok (.bl (!(i == j))) O := by simp [neD, quick, eqv]
@[simp] theorem op_eqS (x y : List Nat) : eqD (.str x) (.str y) O = .ok (.bl (x == y)) O := by simp [eqD, quick, eqv]
@[simp] theorem op_neS (x y : List Nat) : neD (.str x) (.str y) O = .ok (.bl (!(x == y))) O := by simp [neD, quick, eqv]
@[simp] theorem op_eqB (x y : Bool) : eqD (.bl x) (.bl y) O = .ok (.bl (x == y)) O := by simp [eqD, quick, eqv]
@[simp] theorem op_neB (x y : Bool) : neD (.bl x) (.bl y) O = .ok (.bl (!(x == y))) O := by simp [neD, quick, eqv]
@[simp] theorem op_isN (d : D) : isNoneD d .non O = .ok (.bl (isND d)) O := rfl
@[simp] theorem op_notN (d : D) : notNoneD d .non O = .ok (.bl (!isND d)) O := rfl
@[simp] theorem op_inS (n : Bool) (x y : List Nat) : inB n (.str x) (.str y) O = .ok (.bl (n != (hasSub x y && decide (x.length ≤ y.length)))) O := rfl
@[simp] theorem tru_non : truD .non O = .ok false O := rfl
@[simp] theorem tru_bl (b : Bool) : truD (.bl b) O = .ok b O := rfl
@[simp] theorem tru_int (i : Int) : truD (.int i) O = .ok (i != 0) O := rfl
@[simp] theorem tru_str (x : List Nat) : truD (.str x) O = if x.length ≤ sizeLine then .ok (!x.isEmpty) O else .bad := rfl
@[simp] theorem tru_tup (x : List D) : truD (.tup x) O = .ok (!x.isEmpty) O := rfl
@[simp] theorem tru_lst (x : List D) : truD (.lst x) O = .ok (!x.isEmpty) O := rfl
@[simp] theorem isND_non : isND .non = true := rfl
@[simp] theorem isND_bl (b : Bool) : isND (.bl b) = false := rfl
@[simp] theorem isND_int (b : Int) : isND (.int b) = false := rfl
@[simp] theorem isND_str (b : List Nat) : isND (.str b) = false := rfl
@[simp] theorem isND_tup (b : List D) : isND (.tup b) = false := rfl
@[simp] theorem isND_lst (b : List D) : isND (.lst b) = false := rfl
@[simp] theorem len_tup (x : List D) : lenF [.tup x] O = .ok (.int x.length) O := rfl
@[simp] theorem len_lst (x : List D) : lenF [.lst x] O = .ok (.int x.length) O := rfl
@[simp] theorem len_scr (x : List D) : lenF [.scr x] O = .ok (.int x.length) O := rfl
@[simp] theorem len_str (x : List Nat) : lenF [.str x] O = if x.length ≤ sizeLine then .ok (.int x.length) O else .bad := rfl
@[simp] theorem ix_tupI (x : List D) (i : Int) : ixD (.tup x) (.int i) O = match getI x i with | some d => .ok d O | none => .bad := rfl
@[simp] theorem ix_lstI (x : List D) (i : Int) : ixD (.lst x) (.int i) O = match getI x i with | some d => .ok d O | none => .bad := rfl
@[simp] theorem ix_scrI (x : List D) (i : Int) : ixD (.scr x) (.int i) O = match getI x i with | some d => .ok d O | none => .bad := rfl
theorem ix_obL {l : Nat} {x : List D} (h : O[l]? = some (.lst x)) (i : Int) : ixD (.ob l) (.int i) O = match getI x i with | some d => .ok d O | none => .bad := by
  simp [ixD, dicOf, seqR, listR, listS, h] <;> rfl
theorem ix_obD {l : Nat} {kvs : List (DKey × D)} (h : O[l]? = some (.dic kvs)) (k : D) : ixD (.ob l) k O = match keyD k with | some k => (match getK kvs k with | some d => .ok d O | none => .bad) | none => .bad := by
  cases k <;> simp [ixD, dicOf, h] <;> rfl
@[simp] theorem sl_str (m : Bool) (x : List Nat) (a b : Option Int) : slD m (.str x) a b O = if x.length ≤ sizeLine then .ok (.str (cutD x a b)) O else .bad := rfl
@[simp] theorem sl_tup (m : Bool) (x : List D) (a b : Option Int) : slD m (.tup x) a b O = .ok (.tup (cutD x a b)) O := rfl
@[simp] theorem sl_lst (m : Bool) (x : List D) (a b : Option Int) : slD m (.lst x) a b O = mkL m (cutD x a b) O := rfl
@[simp] theorem sl_scr (m : Bool) (x : List D) (a b : Option Int) : slD m (.scr x) a b O = mkL m (cutD x a b) O := rfl
@[simp] theorem range1_int (j : Int) : range1F [.int j] O = if fits j then .ok ⟨rangeD 0 j, []⟩ O else .bad := rfl
@[simp] theorem range2_int (i j : Int) : range2F [.int i, .int j] O = if fits i && fits j then .ok ⟨rangeD i j, []⟩ O else .bad := rfl
@[simp] theorem enum_lst (x : List D) : enumF [.lst x] O = .ok ⟨enumD 0 x, []⟩ O := rfl
@[simp] theorem enum_scr (x : List D) : enumF [.scr x] O = .ok ⟨enumD 0 x, []⟩ O := rfl
@[simp] theorem still_nil : stillOk [] O = true := rfl
@[simp] theorem src_tup (x : List D) : srcD (.tup x) O = .ok ⟨x, []⟩ O := rfl
@[simp] theorem src_lst (x : List D) : srcD (.lst x) O = .ok ⟨x, []⟩ O := rfl
@[simp] theorem src_scr (x : List D) : srcD (.scr x) O = .ok ⟨x, []⟩ O := rfl
@[simp] theorem src_str (x : List Nat) : srcD (.str x) O = .ok ⟨x.map fun c => .str [c], []⟩ O := rfl
@[simp] theorem tuple_tup (x : List D) : tupleF [.tup x] O = .ok (.tup x) O := rfl
@[simp] theorem tuple_lst (x : List D) : tupleF [.lst x] O = .ok (.tup x) O := rfl
@[simp] theorem list_tup (m : Bool) (x : List D) : listF m [.tup x] O = mkL m x O := rfl
@[simp] theorem list_lst (m : Bool) (x : List D) : listF m [.lst x] O = mkL m x O := rfl
end
theorem sizeLine_nat : (sizeLine : Nat) = 16777216 := by decide
/-- an item at a place within -/
theorem getI_nat {ds : List D} {i : Int} (h0 : 0 ≤ i) (h1 : i < ds.length) : getI ds i = ds[i.toNat]? := by
  unfold getI L2.ixN
  rw [if_pos h0, if_pos h1]; rfl
theorem getI_lit {ds : List D} (j : Nat) (h : j < ds.length) : getI ds (j : Int) = some ds[j] := by
  rw [getI_nat (by omega) (by omega)]
  simp [h]
/-- a loop that goes on to its end -/
theorem forL_inv {t : TG0} {b : DS0} {st : List (Nat × List D)} (I : Nat → Rho → Sto → Prop) : ∀ {items : List D} {k : Nat} {r : Rho} {O : Sto},
    (∀ i d r O, items[i]? = some d → I (k + i) r O → stillOk st O = true ∧ ∃ r1 O1 r2 O2, t d r O = some (r1, O1) ∧ (b r1 O1 = .nx r2 O2 ∨ b r1 O1 = .ct r2 O2) ∧ I (k + i + 1) r2 O2) →
    I k r O → (∀ r O, I (k + items.length) r O → stillOk st O = true) → ∃ r' O', forL t b st items r O = .nx r' O' ∧ I (k + items.length) r' O'
  | [], k, r, O, _, h0, he => ⟨r, O, by unfold forL; rw [if_pos (he r O h0)], h0⟩
  | d :: ds, k, r, O, h, h0, he => by
    obtain ⟨hs, r1, O1, r2, O2, e1, e2, h2⟩ := h 0 d r O rfl h0
    have ih := forL_inv I (items := ds) (k := k + 1) (r := r2) (O := O2) (t := t) (b := b) (st := st) (fun i d r O e => by
      have := h (i + 1) d r O (by simpa using e)
      rw [show k + 1 + i = k + (i + 1) from by omega]
      exact this) h2 (fun r O => by rw [show k + 1 + ds.length = k + (d :: ds).length from by simp; omega]; exact he r O)
    rw [show k + 1 + ds.length = k + (d :: ds).length from by simp; omega] at ih
    obtain ⟨r', O', e3, h3⟩ := ih
    refine ⟨r', O', ?_, h3⟩
    unfold forL
    rw [if_pos hs, e1]
    rcases e2 with e2 | e2 <;> simp only [e2] <;> exact e3
mutual
theorem eqv_rfl : ∀ d : D, pure' d = true → eqv d d = true
  | .non, _ => by simp [eqv]
  | .bl _, _ => by simp [eqv]
  | .int _, _ => by simp [eqv]
  | .str _, _ => by simp [eqv]
  | .tup ds, h => by simp only [eqv]; exact eqvL_rfl ds (by simpa [pure'] using h)
  | .lst ds, h => by simp only [eqv]; exact eqvL_rfl ds (by simpa [pure'] using h)
  | .scr _, h => by simp [pure'] at h
  | .ob _, h => by simp [pure'] at h
theorem eqvL_rfl : ∀ ds : List D, pureL ds = true → eqvL ds ds = true
  | [], _ => by simp [eqvL]
  | d :: ds, h => by
    simp only [pureL, Bool.and_eq_true] at h
    simp only [eqvL, eqv_rfl d h.1, eqvL_rfl ds h.2, Bool.and_true]
end
/-- data to be compared, of depth n at most -/
def okN (n : Nat) (d : D) : Bool := pure' d && ((toPy d).canLay0 && decide (dep d ≤ n))
theorem okD_of {n : Nat} (hn : n ≤ 64) {d : D} (h : okN n d = true) : okD d = true := by
  simp only [okN, okD, Bool.and_eq_true, decide_eq_true_eq] at h ⊢
  exact ⟨h.1, h.2.1, by omega⟩
theorem okN_tup {n : Nat} {ds : List D} (h : ∀ d ∈ ds, okN n d = true) : okN (n + 1) (.tup ds) = true := by
  have : pureL ds = true ∧ PyData.canLayAll0 (toPyL ds) = true ∧ depL ds ≤ n := by
    induction ds with
    | nil => simp [pureL, toPyL, PyData.canLayAll0, depL]
    | cons d ds ih =>
      obtain ⟨i1, i2, i3⟩ := ih fun x hx => h x (by simp [hx])
      have hd := h d (by simp)
      simp only [okN, Bool.and_eq_true, decide_eq_true_eq] at hd
      simp only [pureL, toPyL, PyData.canLayAll0, depL, Bool.and_eq_true]
      exact ⟨⟨hd.1, i1⟩, ⟨hd.2.1, i2⟩, Nat.max_le.mpr ⟨hd.2.2, i3⟩⟩
  simp only [okN, pure', toPy, PyData.canLay0, dep, Bool.and_eq_true, decide_eq_true_eq]
  exact ⟨this.1, this.2.1, decide_eq_true (Nat.succ_le_succ this.2.2)⟩
theorem okN_mono {m n : Nat} (hn : m ≤ n) {d : D} (h : okN m d = true) : okN n d = true := by
  simp only [okN, Bool.and_eq_true, decide_eq_true_eq] at h ⊢
  exact ⟨h.1, h.2.1, by omega⟩
/-- equal tuples -/
theorem ne_same {d : D} {O : Sto} {n : Nat} (hn : n ≤ 64) (h : okN n d = true) (hu : unob d O = d) (hq : quick d d = false) : neD d d O = .ok (.bl false) O := by
  have h1 := okD_of hn h
  have hp : pure' d = true := by
    simp only [okN, Bool.and_eq_true] at h
    exact h.1
  unfold neD
  rw [hq, hu, h1, eqv_rfl d hp]
  simp
theorem ne_tup {ds : List D} {O : Sto} {n : Nat} (hn : n ≤ 64) (h : okN n (.tup ds) = true) : neD (.tup ds) (.tup ds) O = .ok (.bl false) O := ne_same hn h rfl rfl
theorem getI_some {ds : List D} {v : Int} (h0 : 0 ≤ v) (h1 : v < ds.length) : ∃ d, d ∈ ds ∧ getI ds v = some d := by
  rw [getI_nat h0 h1]
  exact ⟨ds[v.toNat]'(by omega), List.getElem_mem _, by simp <;> omega⟩
theorem two_cases {v : Int} (h : 0 ≤ v ∧ v < 2) : v = 0 ∨ v = 1 := by omega
@[simp] theorem getI_0 (a : D) (ds : List D) : getI (a :: ds) 0 = some a := by rw [getI_nat (by omega) (by simp <;> omega)]; rfl
@[simp] theorem getI_1 (a b : D) (ds : List D) : getI (a :: b :: ds) 1 = some b := by rw [getI_nat (by omega) (by simp <;> omega)]; rfl
@[simp] theorem getI_2 (a b c : D) (ds : List D) : getI (a :: b :: c :: ds) 2 = some c := by rw [getI_nat (by omega) (by simp <;> omega)]; rfl
@[simp] theorem getI_3 (a b c d : D) (ds : List D) : getI (a :: b :: c :: d :: ds) 3 = some d := by rw [getI_nat (by omega) (by simp <;> omega)]; rfl
theorem bind_iteR {α γ : Type} (p : Prop) [Decidable p] (a b : Res α) (k : α → Sto → Res γ) : (if p then a else b).bind k = if p then a.bind k else b.bind k := by split <;> rfl
theorem bindS_iteR {α : Type} (p : Prop) [Decidable p] (a b : Res α) (r : Rho) (k : α → Sto → SR) : (if p then a else b).bindS r k = if p then a.bindS r k else b.bindS r k := by split <;> rfl
theorem bind_iteS (p : Prop) [Decidable p] (a b : SR) (k : Rho → Sto → SR) : (if p then a else b).bind k = if p then a.bind k else b.bind k := by split <;> rfl
theorem runFn_eq (n : Nat) (B : DS0) (ds : List D) (O : Sto) : runFn n B ds O = match B (ds.map some ++ List.replicate (n - ds.length) none) O with
  | .nx _ O' => .ok .non O' | .ret d O' => .ok d O' | .exc e _ O' => .exc e O' | .bk _ _ => .bad | .ct _ _ => .bad | .bad => .bad := rfl
@[simp] theorem ixN_lt (n : Nat) (j : Nat) (h : j < n) : L2.ixN n (j : Int) = some j := by unfold L2.ixN; rw [if_pos (by omega), if_pos (by omega)]; simp
theorem okN_str {n : Nat} (x : List Nat) (h : ∀ c ∈ x, c < 1114112) : okN n (.str x) = true := by
  simp only [okN, pure', toPy, PyData.canLay0, dep, PyData.strOk, Bool.and_eq_true]
  refine ⟨trivial, ?_, by simp⟩
  rw [Array.all_eq_true']
  intro c hc
  exact decide_eq_true (h c (by simpa using hc))
theorem okN_int {n : Nat} (i : Int) : okN n (.int i) = true := by simp [okN, pure', toPy, PyData.canLay0, dep]
theorem okN_bl {n : Nat} (i : Bool) : okN n (.bl i) = true := by simp [okN, pure', toPy, PyData.canLay0, dep]
theorem okN_non {n : Nat} : okN n .non = true := by simp [okN, pure', toPy, PyData.canLay0, dep]
@[simp] theorem ixN_20 : L2.ixN 2 0 = some 0 := rfl
@[simp] theorem ixN_21 : L2.ixN 2 1 = some 1 := rfl
end Dn
set_option linter.all false
set_option maxRecDepth 100000
namespace Dn
open PySem
/-! ### scripts -/
abbrev scrD (ns : List Int) : D := .scr (ns.map D.int)
theorem law_cell_eq (ns : List Int) (k : Nat) (O : Sto) : Lib.fn__law_cell [scrD ns, .int k] O = .ok (.int (ns[k]?.getD 0)) O := by
  by_cases q : k < ns.length
  · have : getI (ns.map D.int) (k : Int) = some (.int ns[k]) := by rw [getI_lit k (by simpa using q)]; simp
    simp [Lib.fn__law_cell, runFn_eq, Lib.B__law_cell, scrD, q, this]
  · simp [Lib.fn__law_cell, runFn_eq, Lib.B__law_cell, scrD, q]
theorem law_cell_c (ns : List Int) (k : Nat) (O : Sto) : closeFn Lib.fn__law_cell [scrD ns, .int k] O = .ok (.int (ns[k]?.getD 0)) O := by
  have : ∀ l : List Int, noObL (l.map D.int) = true := by
    intro l; induction l with
    | nil => rfl
    | cons a l ih => simp [noObL, noOb, ih]
  exact close_ok (by simp [noObL, noOb, this]) (law_cell_eq ns k []) rfl
theorem cutD_sub {α : Type} {xs : List α} {lo hi : Option Int} {x : α} (h : x ∈ cutD xs lo hi) : x ∈ xs := by
  unfold cutD at h
  exact List.mem_of_mem_drop (List.mem_of_mem_take h)
theorem cutD_len {α : Type} (xs : List α) (lo hi : Option Int) : (cutD xs lo hi).length ≤ xs.length := by
  unfold cutD; simp; omega
/-- a part of a script: whole numbers again -/
theorem cut_script (ns : List Int) (lo hi : Option Int) : ∃ cs : List Int, cutD (ns.map D.int) lo hi = cs.map D.int ∧ cs.length ≤ ns.length ∧ cs = cutD ns lo hi := by
  refine ⟨cutD ns lo hi, ?_, cutD_len _ _ _, rfl⟩
  unfold cutD; simp [List.map_take, List.map_drop]
theorem enum_script {cs : List Int} {i : Nat} {d : D} (h : (enumD 0 (cs.map D.int))[i]? = some d) : ∃ c : Int, d = .tup [.int i, .int c] := by
  obtain ⟨a, h1, h2⟩ := enumD_get h
  rw [List.getElem?_map] at h1
  cases e : cs[i]? with
  | none => rw [e] at h1; cases h1
  | some c => rw [e] at h1; cases h1; exact ⟨c, by simpa using h2⟩
end Dn
set_option linter.all false
set_option maxRecDepth 100000
namespace Dn
open PySem
/-! ### laws that draw: the town is the first cell -/
abbrev town (t : Nat) : Cell := .lst (List.replicate t (.int 0))
def TownAt (O : Sto) (t : Nat) : Prop := O[0]? = some (town t)
/-- nothing but the town has changed -/
structure Off (O O' : Sto) : Prop where
  len : O'.length = O.length
  at' : ∀ l, l ≠ 0 → O'[l]? = O[l]?
theorem Off.refl (O : Sto) : Off O O := ⟨rfl, fun _ _ => rfl⟩
theorem Off.trans {O O' O'' : Sto} (a : Off O O') (b : Off O' O'') : Off O O'' := ⟨b.len.trans a.len, fun l h => (b.at' l h).trans (a.at' l h)⟩
theorem lt_of_get {O : Sto} {l : Nat} {c : Cell} (h : O[l]? = some c) : l < O.length := by
  rcases Nat.lt_or_ge l O.length with q | q
  · exact q
  · rw [List.getElem?_eq_none q] at h; cases h
def drawN (c k : Int) : Int := (c + 104729 * k) % 4294967291 * ((c + 104729 * k) % 4294967291) % 4294967279 * 48271 % 4294967291
def drawV (c k m : Int) : Int := (drawN c k / 64 * 67108864 + drawN c k * drawN c k % 4294967279 * 69621 % 4294967291 / 64) % m
/-- the words that draw, whatever their numbers -/
def B_drw (a p q b d e s : Int) : DS0 :=
  (consS (exprS (bmE tyLst appendF (varE 1) (consA (constE (.int 0)) nilA)))
    (consS (setS 3 (callE lenF (consA (varE 1) nilA)))
    (consS (setS 4 (constE (.int 0)))
    (consS (ifS (truT (varE 0))
    (setS 4 (op2 ixD (varE 0) (op2 modD (varE 3) (callE lenF (consA (varE 0) nilA)))))
    nilS)
    (consS (setS 5 (op2 modD (op2 (addD false) (varE 4) (op2 (mulD false) (constE (.int a)) (varE 3))) (constE (.int p))))
    (consS (setS 5 (op2 modD (op2 (mulD false) (op2 modD (op2 (mulD false) (varE 5) (varE 5)) (constE (.int q))) (constE (.int b))) (constE (.int p))))
    (consS (setS 6 (op2 modD (op2 (mulD false) (op2 modD (op2 (mulD false) (varE 5) (varE 5)) (constE (.int q))) (constE (.int d))) (constE (.int p))))
    (retS (op2 modD (op2 (addD false) (op2 (mulD false) (op2 fdivD (varE 5) (constE (.int s))) (constE (.int e))) (op2 fdivD (varE 6) (constE (.int s)))) (varE 2))))))))))
theorem drw_is : Lib.B__law_draw = B_drw 104729 4294967291 4294967279 48271 69621 67108864 64 := rfl
def drwN (a p q b c k : Int) : Int := (c + a * k) % p * ((c + a * k) % p) % q * b % p
def drwV (a p q b d e s c k m : Int) : Int := (drwN a p q b c k / s * e + drwN a p q b c k * drwN a p q b c k % q * d % p / s) % m
theorem drw_ok {a p q b d e s : Int} (hp : 0 < p) (hq : 0 < q) (hs1 : 0 < s ∧ s < 1073741824) (m1 : ∀ x, mulOk a x = true) (m2 : ∀ x, mulOk (x % p) (x % p) = true) (m3 : ∀ x, mulOk (x % q) b = true) (m4 : ∀ x, mulOk (x % q) d = true) (m5 : ∀ x, mulOk x e = true)
    (ns : List Int) {O : Sto} {t : Nat} {m : Int} (hm : 0 < m) (ht : t < 1000000) (hT : TownAt O t) :
    ∃ c : Int, runFn 7 (B_drw a p q b d e s) [.scr (ns.map D.int), .ob 0, .int m] O = .ok (.int (drwV a p q b d e s c ((t : Int) + 1) m)) (O.set 0 (town (t + 1))) := by
  have hl := lt_of_get hT
  unfold TownAt at hT
  have hz : t < sizeLine := by rw [sizeLine_nat]; omega
  have h0 : ∀ c : Cell, (O.set 0 c)[0]? = some c := fun c => by simp [hl]
  have hr : List.replicate t (D.int 0) ++ [D.int 0] = List.replicate (t + 1) (D.int 0) := by rw [List.replicate_succ']
  by_cases hn : ns = []
  · subst hn
    refine ⟨0, ?_⟩
    simp [drwV, drwN, runFn_eq, B_drw, tyLst, listR, listS, hT, appendF, hz, hr, h0, lenF, lenD, seqR, truD, mulD, m1, m2, m3, m4, m5, hm, hp, hq, hs1]
  · have hlen : 0 < ns.length := List.length_pos_iff.mpr hn
    have hi : ∃ c : Int, getI (ns.map D.int) (((t + 1 : Nat) : Int) % (ns.length : Int)) = some (.int c) := by
      have a1 := Int.emod_nonneg ((t + 1 : Nat) : Int) (show (ns.length : Int) ≠ 0 by omega)
      have a2 := Int.emod_lt_of_pos ((t + 1 : Nat) : Int) (show (0 : Int) < (ns.length : Int) by omega)
      obtain ⟨d, hd, e⟩ := getI_some (ds := ns.map D.int) a1 (by simpa using a2)
      obtain ⟨c, _, rfl⟩ := List.mem_map.mp hd
      exact ⟨c, e⟩
    obtain ⟨c, hi⟩ := hi
    simp only [Int.natCast_add, Int.natCast_one] at hi
    refine ⟨c, ?_⟩
    simp [drwV, drwN, runFn_eq, B_drw, tyLst, listR, listS, hT, appendF, hz, hr, h0, lenF, lenD, seqR, truD, mulD, m1, m2, m3, m4, m5, hm, hp, hq, hs1, hn, hlen, hi]
theorem draw_ok (ns : List Int) {O : Sto} {t : Nat} {m : Int} (hm : 0 < m) (ht : t < 1000000) (hT : TownAt O t) :
    ∃ v O', 0 ≤ v ∧ v < m ∧ Lib.fn__law_draw [.scr (ns.map D.int), .ob 0, .int m] O = .ok (.int v) O' ∧ TownAt O' (t + 1) ∧ Off O O' := by
  have hl := lt_of_get hT
  obtain ⟨c, key⟩ := drw_ok (a := 104729) (p := 4294967291) (q := 4294967279) (b := 48271) (d := 69621) (e := 67108864) (s := 64) (by omega) (by omega) (by omega)
    (fun s => by simp [mulOk]) (fun n => by simp [mulOk]; omega) (fun n => by simp [mulOk]) (fun n => by simp [mulOk]) (fun n => by simp [mulOk]) ns hm ht hT
  refine ⟨_, _, ?_, ?_, key, by unfold TownAt; simp [hl], by simp, fun l h => by simp [List.getElem?_set, Ne.symm h]⟩
  · exact Int.emod_nonneg _ (by omega)
  · exact Int.emod_lt_of_pos _ hm
/-- one of some -/
theorem pick_ok (ns : List Int) {O : Sto} {t : Nat} {ds : List D} (hd : ds ≠ []) (ht : t < 1000000) (hT : TownAt O t) :
    ∃ d O', d ∈ ds ∧ Lib.fn__law_pick [.scr (ns.map D.int), .ob 0, .lst ds] O = .ok d O' ∧ TownAt O' (t + 1) ∧ Off O O' := by
  have hl : 0 < ds.length := List.length_pos_iff.mpr hd
  obtain ⟨v, O', h0, h1, e, hT', ho⟩ := draw_ok ns (m := ds.length) (by omega) ht hT
  obtain ⟨d, hm, e2⟩ := getI_some h0 h1
  exact ⟨d, O', hm, by simp [Lib.fn__law_pick, runFn_eq, Lib.B__law_pick, e, e2], hT', ho⟩
theorem pick_tup (ns : List Int) {O : Sto} {t : Nat} {ds : List D} (hd : ds ≠ []) (ht : t < 1000000) (hT : TownAt O t) :
    ∃ d O', d ∈ ds ∧ Lib.fn__law_pick [.scr (ns.map D.int), .ob 0, .tup ds] O = .ok d O' ∧ TownAt O' (t + 1) ∧ Off O O' := by
  have hl : 0 < ds.length := List.length_pos_iff.mpr hd
  obtain ⟨v, O', h0, h1, e, hT', ho⟩ := draw_ok ns (m := ds.length) (by omega) ht hT
  obtain ⟨d, hm, e2⟩ := getI_some h0 h1
  exact ⟨d, O', hm, by simp [Lib.fn__law_pick, runFn_eq, Lib.B__law_pick, e, e2], hT', ho⟩
/-- a list written by a loop -/
theorem lcL_inv {t : TG0} {el : DE0} {st : List (Nat × List D)} {r : Rho} (I : Nat → Sto → Prop) (P : D → Prop) : ∀ {items acc : List D} {k : Nat} {O : Sto},
    (∀ i d O, items[i]? = some d → I (k + i) O → ∃ r1 y O', t d r O = some (r1, O) ∧ el r1 O = .ok y O' ∧ P y ∧ I (k + i + 1) O') →
    I k O → (∀ k O, I k O → stillOk st O = true) → acc.length + items.length ≤ sizeLine →
    ∃ ys O', lcL t yesT el st r items acc O = .ok (acc ++ ys) O' ∧ ys.length = items.length ∧ (∀ y ∈ ys, P y) ∧ I (k + items.length) O'
  | [], acc, k, O, _, h0, hs, _ => ⟨[], O, by unfold lcL; rw [if_pos (hs _ _ h0)]; simp, rfl, by simp, h0⟩
  | d :: ds, acc, k, O, h, h0, hs, hl => by
    obtain ⟨r1, y, O', e1, e2, hp, hi⟩ := h 0 d O rfl h0
    simp only [List.length_cons] at hl
    obtain ⟨ys, O'', e3, e4, e5, e6⟩ := lcL_inv I P (items := ds) (acc := acc ++ [y]) (k := k + 1) (O := O') (fun i x O hx hI => by
      have := h (i + 1) x O (by simpa using hx) (by rw [show k + (i + 1) = k + 1 + i from by omega]; exact hI)
      rw [show k + 1 + i + 1 = k + (i + 1) + 1 from by omega]
      exact this) hi hs (by simp; omega)
    refine ⟨y :: ys, O'', ?_, by simp [e4], fun z hz => ?_, by rw [show k + (d :: ds).length = k + 1 + ds.length from by simp; omega]; exact e6⟩
    · unfold lcL
      rw [if_pos (hs _ _ h0), e1]
      simp only [yesT]
      rw [e2]
      simp only []
      rw [if_pos (by omega), e3]
      simp
    · simp only [List.mem_cons] at hz
      rcases hz with rfl | hz
      · exact hp
      · exact e5 z hz
theorem eq_same {d : D} {O : Sto} {n : Nat} (hn : n ≤ 64) (h : okN n d = true) (hu : unob d O = d) (hq : quick d d = false) : eqD d d O = .ok (.bl true) O := by
  have h1 := okD_of hn h
  have hp : pure' d = true := by
    simp only [okN, Bool.and_eq_true] at h
    exact h.1
  unfold eqD
  rw [hq, hu, h1, eqv_rfl d hp]
  simp
theorem eq_tup {ds : List D} {O : Sto} {n : Nat} (hn : n ≤ 64) (h : okN n (.tup ds) = true) : eqD (.tup ds) (.tup ds) O = .ok (.bl true) O := eq_same hn h rfl rfl
@[simp] theorem eq_nil (O : Sto) : eqD (.tup []) (.tup []) O = .ok (.bl true) O := eq_tup (n := 1) (by omega) (okN_tup (by simp))
@[simp] theorem ne_nil (O : Sto) : neD (.tup []) (.tup []) O = .ok (.bl false) O := ne_tup (n := 1) (by omega) (okN_tup (by simp))
end Dn
set_option linter.all false
set_option maxRecDepth 100000
namespace Dn
open PySem
/-! ### loops without change, texts -/
theorem lcL_map {α : Type} {t : TG0} {el : DE0} {st : List (Nat × List D)} {r : Rho} {O : Sto} (e f : α → D) (hst : stillOk st O = true) : ∀ (xs : List α) (acc : List D),
    (∀ a ∈ xs, ∃ r1, t (e a) r O = some (r1, O) ∧ el r1 O = .ok (f a) O) → acc.length + xs.length ≤ sizeLine → lcL t yesT el st r (xs.map e) acc O = .ok (acc ++ xs.map f) O
  | [], acc, _, _ => by simp [lcL, hst]
  | a :: xs, acc, h, hl => by
    obtain ⟨r1, e1, e2⟩ := h a (by simp)
    simp only [List.length_cons] at hl
    have ih := lcL_map e f hst (t := t) (el := el) (r := r) xs (acc ++ [f a]) (fun b hb => h b (by simp [hb])) (by simp; omega)
    rw [List.map_cons]
    unfold lcL
    rw [if_pos hst, e1]
    simp only [yesT]
    rw [e2]
    simp only []
    rw [if_pos (by omega)]
    have ih' := ih
    simp only [List.append_assoc, List.singleton_append] at ih'
    rw [List.map_cons]
    exact ih'
theorem lcL_filter {α : Type} {t : TG0} {c : Rho → Sto → Res Bool} {el : DE0} {st : List (Nat × List D)} {r : Rho} {O : Sto} (e f : α → D) (g : α → Bool) (hst : stillOk st O = true) : ∀ (xs : List α) (acc : List D),
    (∀ a ∈ xs, ∃ r1, t (e a) r O = some (r1, O) ∧ c r1 O = .ok (g a) O ∧ el r1 O = .ok (f a) O) → acc.length + xs.length ≤ sizeLine → lcL t c el st r (xs.map e) acc O = .ok (acc ++ (xs.filter g).map f) O
  | [], acc, _, _ => by simp [lcL, hst]
  | a :: xs, acc, h, hl => by
    obtain ⟨r1, e1, e2, e3⟩ := h a (by simp)
    simp only [List.length_cons] at hl
    rw [List.map_cons]
    unfold lcL
    rw [if_pos hst, e1]
    simp only []
    rw [e2]
    cases q : g a with
    | true =>
      have ih := lcL_filter e f g hst (t := t) (c := c) (el := el) (r := r) xs (acc ++ [f a]) (fun b hb => h b (by simp [hb])) (by simp; omega)
      simp only []
      rw [e3]
      simp only []
      rw [if_pos (by omega), List.filter_cons, if_pos q, List.map_cons]
      simpa using ih
    | false =>
      have ih := lcL_filter e f g hst (t := t) (c := c) (el := el) (r := r) xs acc (fun b hb => h b (by simp [hb])) (by omega)
      simp only []
      rw [List.filter_cons, if_neg (by rw [q]; decide)]
      exact ih
theorem strsD_map : ∀ ps : List (List Nat), strsD (ps.map D.str) = some ps
  | [] => rfl
  | p :: ps => by simp [strsD, strsD_map ps]
theorem join_lst (a : List Nat) (ps : List (List Nat)) (O : Sto) (h : (ps.map (·.length)).sum + ps.length * a.length ≤ 16777216) : joinF (.str a) [.lst (ps.map D.str)] O = .ok (.str (TL.joinL a ps)) O := by
  simp only [joinF, seqR, listR, listS, strsD_map]
  rw [if_pos h]
theorem split_dot (x : List Nat) (O : Sto) (h : x.length ≤ 16000000) : splitF false (.str x) [.str [46]] O = .ok (.lst ((TL.spl [46] 0 [] x).map D.str)) O := by
  simp [splitF, h]
theorem ix_str {x : List Nat} {i : Int} (h0 : 0 ≤ i) (h1 : i < x.length) (hx : x.length ≤ 1000000) (O : Sto) : ∃ c, c ∈ x ∧ ixD (.str x) (.int i) O = .ok (.str [c]) O := by
  have hs : x.length ≤ sizeLine := by rw [sizeLine_nat]; omega
  refine ⟨x[i.toNat]'(by omega), List.getElem_mem _, ?_⟩
  simp only [ixD]
  rw [if_pos hs]
  have : L2.ixN x.length i = some i.toNat := by unfold L2.ixN; rw [if_pos h0, if_pos h1]
  rw [this]
  have h2 : x[i.toNat]? = some (x[i.toNat]'(by omega)) := List.getElem?_eq_getElem (by omega)
  simp [h2]
theorem bls_map {α : Type} (xs : List α) (g : α → Bool) : bls (xs.map fun a => D.bl (g a)) = some (xs.map g) := by
  induction xs with
  | nil => rfl
  | cons a l ih => simp [bls, blD, ih]
theorem all_map {α : Type} (xs : List α) (g : α → Bool) (O : Sto) : allF [.lst (xs.map fun a => D.bl (g a))] O = .ok (.bl (xs.all g)) O := by
  simp [allF, listR, listS, bls_map, Function.comp_def]
theorem any_map {α : Type} (xs : List α) (g : α → Bool) (O : Sto) : anyF [.lst (xs.map fun a => D.bl (g a))] O = .ok (.bl (xs.any g)) O := by
  simp [anyF, listR, listS, bls_map, Function.comp_def]
theorem cut_take {α : Type} (xs : List α) {k : Nat} (h : k ≤ xs.length) : cutD xs none (some (k : Int)) = xs.take k := by
  simp only [cutD, HT.sIx]
  rw [if_neg (by omega), List.drop_zero, Int.toNat_natCast, Nat.min_eq_left h, Nat.sub_zero]
theorem cut_last {α : Type} (xs : List α) : cutD xs none (some (-1)) = xs.take (xs.length - 1) := by
  simp only [cutD, HT.sIx]
  rw [if_pos (by omega), List.drop_zero]
  congr 1
  omega
theorem down_succ (n : Nat) : downD ((n + 1 : Nat) - 1 : Int) (-1) = .int n :: downD ((n : Int) - 1) (-1) := by
  unfold downD
  rw [show (((n + 1 : Nat) : Int) - 1 - (-1)).toNat = n + 1 from by omega, show ((n : Int) - 1 - (-1)).toNat = n from by omega, List.range_succ_eq_map]
  simp only [List.map_cons, List.map_map]
  have h1 : (D.int (((n + 1 : Nat) : Int) - 1 - ((0 : Nat) : Int))) = .int n := by congr 1; omega
  rw [h1]
  refine congrArg _ (List.map_congr_left fun k _ => ?_)
  simp only [Function.comp_apply]
  congr 1
  omega
end Dn
set_option linter.all false
set_option maxRecDepth 100000
namespace Dn
open PySem
/-! ### steps, one at a time -/
section
variable {fs gs : DS0} {c : Rho → Sto → Res Bool} {b : DS0} {r r1 r2 : Rho} {O O1 O2 : Sto} {x : SR} {d : D} {e : Er} {n : Nat}
theorem cs_nx (h : fs r O = .nx r1 O1) (k : gs r1 O1 = x) : consS fs gs r O = x := by rw [ev_consS, h]; exact k
theorem cs_ret (h : fs r O = .ret d O1) : consS fs gs r O = .ret d O1 := by rw [ev_consS, h]; rfl
theorem cs_exc (h : fs r O = .exc e r1 O1) : consS fs gs r O = .exc e r1 O1 := by rw [ev_consS, h]; rfl
theorem if_t (h : c r O = .ok true O1) (k : fs r O1 = x) : ifS c fs gs r O = x := by rw [ev_ifS, h]; exact k
theorem if_f (h : c r O = .ok false O1) (k : gs r O1 = x) : ifS c fs gs r O = x := by rw [ev_ifS, h]; exact k
theorem while_t (hc : c r O = .ok true O1) (hb : b r O1 = .nx r2 O2) (k : whileL c b n r2 O2 = x) : whileL c b (n + 1) r O = x := by
  unfold whileL; rw [hc]; simp only [bindS_ok', if_true, hb]; exact k
theorem while_f (hc : c r O = .ok false O1) : whileL c b (n + 1) r O = .nx r O1 := by
  unfold whileL; rw [hc]; simp
theorem while_ret (hc : c r O = .ok true O1) (hb : b r O1 = .ret d O2) : whileL c b (n + 1) r O = .ret d O2 := by
  unfold whileL; rw [hc]; simp only [bindS_ok', if_true, hb]
theorem while_exc (hc : c r O = .ok true O1) (hb : b r O1 = .exc e r2 O2) : whileL c b (n + 1) r O = .exc e r2 O2 := by
  unfold whileL; rw [hc]; simp only [bindS_ok', if_true, hb]
theorem ev_whileS : whileS n c b r O = whileL c b n r O := rfl
end
/-! ### loops as folds -/
theorem forL_fold {α β : Type} (e : β → D) (R : α → Rho → Sto → Prop) (f : α → β → α) {t : TG0} {bd : DS0} : ∀ (xs : List β) (a : α) {r : Rho} {O : Sto},
    (∀ pre b post r O, xs = pre ++ b :: post → R (pre.foldl f a) r O → ∃ r1 O1 r2 O2, t (e b) r O = some (r1, O1) ∧ (bd r1 O1 = .nx r2 O2 ∨ bd r1 O1 = .ct r2 O2) ∧ R (f (pre.foldl f a) b) r2 O2) →
    R a r O → ∃ r' O', forL t bd [] (xs.map e) r O = .nx r' O' ∧ R (xs.foldl f a) r' O'
  | [], a, r, O, _, h => ⟨r, O, by simp [forL], h⟩
  | b :: xs, a, r, O, hs, h => by
    obtain ⟨r1, O1, r2, O2, h1, h2, h3⟩ := hs [] b xs r O rfl h
    obtain ⟨r', O', h4, h5⟩ := forL_fold e R f (t := t) (bd := bd) xs (f a b) (r := r2) (O := O2) (fun pre c post r O q k => hs (b :: pre) c post r O (by rw [q]; rfl) k) h3
    refine ⟨r', O', ?_, h5⟩
    rw [List.map_cons]
    unfold forL
    rw [if_pos (still_nil), h1]
    rcases h2 with h2 | h2 <;> simp only [h2] <;> exact h4
/-- .. that may be left -/
theorem forL_foldM {α β ε : Type} (e : β → D) (R : α → Rho → Sto → Prop) (f : α → β → Except ε α) (X : ε → SR → Prop) {t : TG0} {bd : DS0}
    (hX : ∀ x s, X x s → (∃ d O, s = .ret d O) ∨ ∃ er r O, s = .exc er r O) : ∀ (xs : List β) (a : α) {r : Rho} {O : Sto},
    (∀ pre b post a' r O, xs = pre ++ b :: post → pre.foldlM f a = .ok a' → R a' r O → ∃ r1 O1, t (e b) r O = some (r1, O1) ∧ (match f a' b with | .ok a2 => ∃ r2 O2, (bd r1 O1 = .nx r2 O2 ∨ bd r1 O1 = .ct r2 O2) ∧ R a2 r2 O2 | .error x => X x (bd r1 O1))) →
    R a r O → (match xs.foldlM f a with | .ok a2 => ∃ r' O', forL t bd [] (xs.map e) r O = .nx r' O' ∧ R a2 r' O' | .error x => X x (forL t bd [] (xs.map e) r O))
  | [], a, r, O, _, h => ⟨r, O, by simp [forL], h⟩
  | b :: xs, a, r, O, hs, h => by
    obtain ⟨r1, O1, h1, h2⟩ := hs [] b xs a r O rfl rfl h
    rw [List.foldlM_cons]
    cases q : f a b with
    | ok a2 =>
      rw [q] at h2
      obtain ⟨r2, O2, h2, h3⟩ := h2
      have ih := forL_foldM e R f X (t := t) (bd := bd) hX xs a2 (r := r2) (O := O2) (fun pre c post a' r O q' k k2 => hs (b :: pre) c post a' r O (by rw [q']; rfl) (by rw [List.foldlM_cons, q]; exact k) k2) h3
      have eq : forL t bd [] ((b :: xs).map e) r O = forL t bd [] (xs.map e) r2 O2 := by
        rw [List.map_cons]
        conv => lhs; unfold forL
        rw [if_pos (still_nil), h1]
        rcases h2 with h2 | h2 <;> simp only [h2]
      rw [eq]
      exact ih
    | error x =>
      rw [q] at h2
      have eq : forL t bd [] ((b :: xs).map e) r O = bd r1 O1 := by
        rw [List.map_cons]
        conv => lhs; unfold forL
        rw [if_pos (still_nil), h1]
        rcases hX _ _ h2 with ⟨d, O', z⟩ | ⟨er, r', O', z⟩ <;> simp only [z]
      show X x _
      rw [eq]
      exact h2
/-! ### numbers in texts -/
theorem numT_nat (n : Nat) : numT (n : Int) = TL.numL n := by
  rw [← TL.tl_num n]
  unfold numT
  rw [TL.tl_ofString]
theorem digit_lt {n : Nat} : ∀ c ∈ TL.numL n, 48 ≤ c ∧ c ≤ 57 := by
  induction n using Nat.strongRecOn with
  | _ n ih =>
    intro c hc
    by_cases h : n < 10
    · rw [TL.numL_lt h] at hc
      simp at hc; omega
    · rw [TL.numL_step (by omega)] at hc
      rcases List.mem_append.mp hc with hc | hc
      · exact ih (n / 10) (by omega) c hc
      · simp at hc; omega
open NumText in
theorem dv_app (a : List Nat) (c : Nat) : digitsVal (a ++ [c]) = digitsVal a * 10 + (c - 48) := by
  unfold digitsVal; rw [List.foldl_append]; rfl
open NumText in
theorem dv_num (n : Nat) : digitsVal (TL.numL n) = n := by
  induction n using Nat.strongRecOn with
  | _ n ih =>
    by_cases h : n < 10
    · rw [TL.numL_lt h]; unfold digitsVal; simp
    · rw [TL.numL_step (by omega), dv_app, ih (n / 10) (by omega)]; omega
open NumText in
theorem int_digits {a : List Nat} (h : ∀ c ∈ a, 48 ≤ c ∧ c ≤ 57) (h1 : a ≠ []) (h2 : a.length ≤ 640) (O : Sto) : intF [.str a] O = .ok (.int (digitsVal a)) O := by
  have := intText_digits (x := mkS a) h h1 (by rw [len_mkS]; omega)
  simp only [intF]
  rw [if_pos h2, this]
open NumText in
/-- figures without a needless 0 are the number's own -/
theorem num_dv : ∀ (n : Nat) {a : List Nat}, a.length = n → (∀ c ∈ a, 48 ≤ c ∧ c ≤ 57) → a ≠ [] → (a.head? = some 48 → a.length = 1) → TL.numL (digitsVal a) = a
  | 0, a, hn, h, h1, h2 => absurd (List.eq_nil_of_length_eq_zero hn) h1
  | n + 1, a, hn, h, h1, h2 => by
    obtain ⟨b, c, rfl⟩ : ∃ b c, a = b ++ [c] := ⟨a.dropLast, a.getLast h1, (List.dropLast_concat_getLast h1).symm⟩
    have hc := h c (by simp)
    cases b with
    | nil =>
      have : digitsVal [c] = c - 48 := by unfold digitsVal; simp
      rw [List.nil_append, this, TL.numL_lt (by omega)]
      congr 1; omega
    | cons x b =>
      have hx := h x (by simp)
      have hx0 : x ≠ 48 := fun e => by
        have := h2 (by rw [e]; rfl)
        simp at this
      have ih := num_dv n (a := x :: b) (by simp at hn ⊢; omega) (fun c hc => h c (List.mem_append_left _ hc)) (by simp) (fun e => by simp at e; exact absurd e hx0)
      have hpos : 1 ≤ digitsVal (x :: b) := by
        cases q : digitsVal (x :: b) with
        | zero =>
          rw [q, TL.numL_lt (by omega)] at ih
          injection ih with ih _
          omega
        | succ m => omega
      rw [dv_app]
      rw [TL.numL_step (by omega), show (digitsVal (x :: b) * 10 + (c - 48)) / 10 = digitsVal (x :: b) from by omega, ih]
      congr 2
      omega
theorem numL_len {n k : Nat} (h : n < 10 ^ k) (hk : 0 < k) : (TL.numL n).length ≤ k := by
  induction k generalizing n with
  | zero => omega
  | succ k ih =>
    by_cases h1 : n < 10
    · rw [TL.numL_lt h1]; simp
    · rw [TL.numL_step (by omega)]
      by_cases hk0 : k = 0
      · subst hk0; omega
      · have := ih (n := n / 10) (by rw [Nat.pow_succ] at h; omega) (by omega)
        simp; omega
theorem numL_ne (n : Nat) : TL.numL n ≠ [] := by
  by_cases h : n < 10
  · rw [TL.numL_lt h]; simp
  · rw [TL.numL_step (by omega)]; simp
/-- no needless 0 ahead -/
theorem numL_head (n : Nat) : (TL.numL n).head? = some 48 → n = 0 := by
  induction n using Nat.strongRecOn with
  | _ n ih =>
    intro h
    by_cases h1 : n < 10
    · rw [TL.numL_lt h1] at h
      simp at h; exact h
    · rw [TL.numL_step (by omega)] at h
      have h2 : (TL.numL (n / 10)).head? = some 48 := by
        cases q : TL.numL (n / 10) with
        | nil => exact absurd q (numL_ne _)
        | cons a l => rw [q] at h; simpa using h
      have := ih (n / 10) (by omega) h2
      omega
theorem log2_small {i : Int} (h0 : 0 ≤ i) (h : i < 1000000000000) : i.natAbs.log2 < 1920 := by
  have h1 : i.natAbs < 2 ^ 40 := by
    have : (2 : Nat) ^ 40 = 1099511627776 := by decide
    omega
  by_cases h2 : i.natAbs = 0
  · rw [h2]; decide
  · have := (Nat.log2_lt h2).mpr h1
    omega
/-- one of a written list -/
theorem ix_lstD {ds : List D} {i : Int} (h0 : 0 ≤ i) (h1 : i < ds.length) (O : Sto) : ∃ d, d ∈ ds ∧ ixD (.lst ds) (.int i) O = .ok d O := by
  obtain ⟨d, m, e⟩ := getI_some h0 h1
  exact ⟨d, m, by rw [ix_lstI, e]⟩
end Dn
namespace Dn
open PySem
@[simp] theorem tru_scr (x : List D) (O : Sto) : truD (.scr x) O = .ok (!x.isEmpty) O := rfl
/-! ### slices, signs within, errors of closed defs -/
theorem cut_takeN {α : Type} (xs : List α) (k : Nat) : cutD xs none (some (k : Int)) = xs.take k := by
  simp only [cutD, HT.sIx]
  rw [if_neg (by omega), List.drop_zero, Int.toNat_natCast, Nat.sub_zero]
  by_cases h : k ≤ xs.length
  · rw [Nat.min_eq_left h]
  · rw [Nat.min_eq_right (by omega), List.take_of_length_le (by omega), List.take_of_length_le (by omega)]
theorem cut_dropN {α : Type} (xs : List α) (k : Nat) : cutD xs (some (k : Int)) none = xs.drop k := by
  simp only [cutD, HT.sIx]
  rw [if_neg (by omega), Int.toNat_natCast]
  by_cases h : k ≤ xs.length
  · rw [Nat.min_eq_left h, List.take_of_length_le (by simp)]
  · rw [Nat.min_eq_right (by omega), List.drop_eq_nil_of_le (Nat.le_refl _), List.drop_eq_nil_of_le (by omega)]; simp
@[simp] theorem cut_take1 {α : Type} (xs : List α) : cutD xs none (some 1) = xs.take 1 := cut_takeN xs 1
@[simp] theorem cut_drop1 {α : Type} (xs : List α) : cutD xs (some 1) none = xs.drop 1 := cut_dropN xs 1
theorem sub_one (c : Nat) (y : List Nat) : hasSub [c] y = y.contains c := by
  rw [Bool.eq_iff_iff]
  simp only [hasSub, List.any_eq_true, List.contains_iff_mem, List.mem_range, List.length_singleton]
  constructor
  · rintro ⟨i, _, e⟩
    have e2 := eq_of_beq e
    have : c ∈ (y.drop i).take 1 := by rw [e2]; simp
    exact List.mem_of_mem_drop (List.mem_of_mem_take this)
  · intro h
    obtain ⟨i, hi, e⟩ := List.getElem_of_mem h
    refine ⟨i, by omega, ?_⟩
    rw [beq_iff_eq, List.drop_eq_getElem_cons hi, e]; rfl
theorem close_exc {fn : Fn} {ds : List D} {O O' : Sto} {e : Er} (h1 : noObL ds = true) (h2 : fn ds [] = .exc e O') (h3 : noObF e.fs = true) : closeFn fn ds O = .exc e O := by
  unfold closeFn
  rw [if_pos h1, h2]
  simp [h3]
theorem getI_last {xs : List D} (h : xs ≠ []) : getI xs (-1) = some (xs.getLast h) := by
  have hl : 0 < xs.length := List.length_pos_iff.mpr h
  unfold getI
  have : L2.ixN xs.length (-1) = some (xs.length - 1) := by
    unfold L2.ixN
    rw [if_neg (by omega), if_pos (by omega)]
    congr 1; omega
  rw [this]
  simp [List.getLast_eq_getElem, List.getElem?_eq_getElem (show xs.length - 1 < xs.length by omega)]
theorem eqvL_strs : ∀ xs ys : List (List Nat), eqvL (xs.map D.str) (ys.map D.str) = (xs == ys)
  | [], [] => by simp [eqvL]
  | [], _ :: _ => by simp [eqvL]
  | _ :: _, [] => by simp [eqvL]
  | x :: xs, y :: ys => by
    simp only [List.map_cons, eqvL, eqv, eqvL_strs xs ys]
    rfl
theorem okD_strs {xs : List (List Nat)} (h : ∀ x ∈ xs, ∀ c ∈ x, c < 1114112) : okD (.tup (xs.map D.str)) = true :=
  okD_of (n := 5) (by omega) (okN_tup fun d hd => by
    obtain ⟨x, hx, rfl⟩ := List.mem_map.mp hd
    exact okN_str x (h x hx))
theorem ne_strs {xs ys : List (List Nat)} (hx : ∀ x ∈ xs, ∀ c ∈ x, c < 1114112) (hy : ∀ x ∈ ys, ∀ c ∈ x, c < 1114112) (O : Sto) : neD (.tup (xs.map D.str)) (.tup (ys.map D.str)) O = .ok (.bl (!(xs == ys))) O := by
  have h1 := okD_strs hx
  have h2 := okD_strs hy
  simp only [neD, quick, unob, eqv]
  rw [h1, h2, eqvL_strs]
  simp
end Dn
namespace Dn
open PySem
/-! ### comprehensions of which only the kind is known -/
theorem lcL_ex {t : TG0} {el : DE0} {st : List (Nat × List D)} {r : Rho} {O : Sto} (P : D → Prop) (hst : stillOk st O = true) : ∀ (items acc : List D),
    (∀ d ∈ items, ∃ r1 w, t d r O = some (r1, O) ∧ el r1 O = .ok w O ∧ P w) → acc.length + items.length ≤ sizeLine → ∃ ws, lcL t yesT el st r items acc O = .ok (acc ++ ws) O ∧ ws.length = items.length ∧ ∀ w ∈ ws, P w
  | [], acc, _, _ => ⟨[], by simp [lcL, hst], rfl, by simp⟩
  | d :: ds, acc, h, hl => by
    obtain ⟨r1, w, e1, e2, hw⟩ := h d (by simp)
    simp only [List.length_cons] at hl
    obtain ⟨ws, e3, e4, e5⟩ := lcL_ex P hst (t := t) (el := el) (r := r) ds (acc ++ [w]) (fun b hb => h b (by simp [hb])) (by simp; omega)
    refine ⟨w :: ws, ?_, by simp [e4], fun x hx => ?_⟩
    · unfold lcL
      rw [if_pos hst, e1]
      simp only [yesT]
      rw [e2]
      simp only []
      rw [if_pos (by omega), e3]
      simp
    · rcases List.mem_cons.mp hx with rfl | hx
      · exact hw
      · exact e5 x hx
theorem strs_ex {Q : List Nat → Prop} : ∀ {ws : List D}, (∀ w ∈ ws, ∃ x, w = .str x ∧ Q x) → ∃ xs : List (List Nat), ws = xs.map D.str ∧ ∀ x ∈ xs, Q x
  | [], _ => ⟨[], rfl, by simp⟩
  | w :: ws, h => by
    obtain ⟨x, rfl, hx⟩ := h w (by simp)
    obtain ⟨xs, rfl, hxs⟩ := strs_ex (ws := ws) fun v hv => h v (by simp [hv])
    refine ⟨x :: xs, rfl, fun y hy => ?_⟩
    rcases List.mem_cons.mp hy with rfl | hy
    · exact hx
    · exact hxs y hy
end Dn
namespace Dn
open PySem
/-! ### f-strings, part by part -/
def JP (j : DJ0) (r : Rho) (O : Sto) (xs : List (List Nat)) : Prop := ∀ acc : List Nat, acc.length + (xs.map (·.length)).sum ≤ sizeLine → j acc r O = .ok (.str (acc ++ xs.flatten)) O
theorem jp_nil {r : Rho} {O : Sto} : JP nilJ r O [] := fun acc _ => by simp [nilJ]
theorem jp_cons {f : DE0} {j : DJ0} {r : Rho} {O : Sto} {x : List Nat} {xs : List (List Nat)} (h : f r O = .ok (.str x) O) (k : JP j r O xs) : JP (consJ f j) r O (x :: xs) := fun acc hl => by
  simp only [List.map_cons, List.sum_cons] at hl
  simp only [consJ, h, bind_ok']
  rw [if_pos (by omega), k (acc ++ x) (by simp; omega)]
  simp
theorem joinE_ok {j : DJ0} {r : Rho} {O : Sto} {xs : List (List Nat)} (h : JP j r O xs) (hl : (xs.map (·.length)).sum ≤ 16777216) : joinE j r O = .ok (.str xs.flatten) O := by
  have := h [] (by rw [sizeLine_nat]; simpa using hl)
  simpa [joinE] using this
theorem fmt_str {f : DE0} {r : Rho} {O : Sto} {x : List Nat} (h : f r O = .ok (.str x) O) (hl : x.length ≤ 16777216) : fmtE f r O = .ok (.str x) O := by
  simp only [fmtE, h, bind_ok', fmtD]
  rw [if_pos (by rw [sizeLine_nat]; exact hl)]
theorem fmt_int {f : DE0} {r : Rho} {O : Sto} {n : Nat} (h : f r O = .ok (.int n) O) (hl : n < 1000000000000) : fmtE f r O = .ok (.str (TL.numL n)) O := by
  simp only [fmtE, h, bind_ok', fmtD]
  rw [if_pos (log2_small (by omega) (by omega)), numT_nat]
end Dn
namespace Dn
open PySem
theorem lcL_filt {α : Type} {t : TG0} {c : Rho → Sto → Res Bool} {el : DE0} {st : List (Nat × List D)} {r : Rho} {O : Sto} (e f : α → D) (g : α → Bool) (hst : stillOk st O = true) : ∀ (xs : List α) (acc : List D),
    (∀ a ∈ xs, ∃ r1, t (e a) r O = some (r1, O) ∧ c r1 O = .ok (g a) O ∧ (g a = true → el r1 O = .ok (f a) O)) → acc.length + xs.length ≤ sizeLine → lcL t c el st r (xs.map e) acc O = .ok (acc ++ (xs.filter g).map f) O
  | [], acc, _, _ => by simp [lcL, hst]
  | a :: xs, acc, h, hl => by
    obtain ⟨r1, e1, e2, e3⟩ := h a (by simp)
    simp only [List.length_cons] at hl
    rw [List.map_cons]
    unfold lcL
    rw [if_pos hst, e1]
    simp only []
    rw [e2]
    cases q : g a with
    | true =>
      have ih := lcL_filt e f g hst (t := t) (c := c) (el := el) (r := r) xs (acc ++ [f a]) (fun b hb => h b (by simp [hb])) (by simp; omega)
      simp only []
      rw [e3 q]
      simp only []
      rw [if_pos (by omega), List.filter_cons, if_pos q, List.map_cons]
      simpa using ih
    | false =>
      have ih := lcL_filt e f g hst (t := t) (c := c) (el := el) (r := r) xs acc (fun b hb => h b (by simp [hb])) (by omega)
      simp only []
      rw [List.filter_cons, if_neg (by rw [q]; decide)]
      exact ih
end Dn
namespace Dn
/-- texts -/
abbrev Tx := List Nat
abbrev tsD (ts : List Tx) : List D := ts.map D.str
end Dn
set_option linter.all false
set_option maxRecDepth 100000
set_option maxHeartbeats 4000000
namespace Dn
open PySem Lib
/-! ### names: parts, what is above, under; is_name -/
abbrev pts (l : List Nat) : List (List Nat) := TL.spl [46] 0 [] l
abbrev jn (ps : List (List Nat)) : List Nat := TL.joinL [46] ps
theorem spl_cons (acc : List Nat) (c : Nat) (r : List Nat) : TL.spl [46] 0 acc (c :: r) = if c = 46 then acc :: TL.spl [46] 0 [] r else TL.spl [46] 0 (acc ++ [c]) r := by
  by_cases h : c = 46
  · subst h
    rw [if_pos rfl, TL.spl_hit (by simp [TL.pre])]
    rfl
  · rw [if_neg h, TL.spl_miss (by simp [TL.pre, h])]
theorem spl_ne (l : List Nat) : ∀ acc, TL.spl [46] 0 acc l ≠ [] := by
  induction l with
  | nil => intro acc; rw [TL.spl_nil]; simp
  | cons c r ih => intro acc; rw [spl_cons]; split; · simp
                   exact ih _
theorem spl_dot (l : List Nat) : ∀ acc, 46 ∉ acc → ∀ p ∈ TL.spl [46] 0 acc l, 46 ∉ p := by
  induction l with
  | nil => intro acc h p hp; rw [TL.spl_nil] at hp; simp at hp; subst hp; exact h
  | cons c r ih =>
    intro acc h p hp
    rw [spl_cons] at hp
    split at hp
    · simp only [List.mem_cons] at hp
      rcases hp with rfl | hp
      · exact h
      · exact ih [] (by simp) p hp
    · rename_i hc
      exact ih (acc ++ [c]) (by simp [h]; exact fun e => hc e.symm) p hp
theorem jn_cons (p : List Nat) {ps : List (List Nat)} (h : ps ≠ []) : jn (p :: ps) = p ++ 46 :: jn ps := by
  cases ps with
  | nil => exact absurd rfl h
  | cons q ps => simp [TL.joinL]
theorem jn_spl (l : List Nat) : ∀ acc, jn (TL.spl [46] 0 acc l) = acc ++ l := by
  induction l with
  | nil => intro acc; rw [TL.spl_nil]; simp [TL.joinL]
  | cons c r ih =>
    intro acc
    rw [spl_cons]
    split
    · rename_i hc
      subst hc
      rw [jn_cons _ (spl_ne r []), ih []]; simp
    · rw [ih]; simp
theorem spl_app (x y : List Nat) : ∀ acc, TL.spl [46] 0 acc (x ++ 46 :: y) = TL.spl [46] 0 acc x ++ TL.spl [46] 0 [] y := by
  induction x with
  | nil => intro acc; rw [TL.spl_nil, List.nil_append, spl_cons, if_pos rfl]; rfl
  | cons c r ih =>
    intro acc
    rw [List.cons_append, spl_cons, spl_cons]
    split
    · rw [ih]; rfl
    · exact ih _
theorem jn_app : ∀ {a b : List (List Nat)}, a ≠ [] → b ≠ [] → jn (a ++ b) = jn a ++ 46 :: jn b
  | [], _, h, _ => absurd rfl h
  | [p], b, _, hb => by rw [List.singleton_append, jn_cons p hb]; simp [TL.joinL]
  | p :: q :: a, b, _, hb => by
    rw [List.cons_append, jn_cons p (by simp), jn_app (a := q :: a) (by simp) hb, jn_cons p (by simp)]
    simp
/-- a text that is led as a name -/
def VN (x : List Nat) : Prop := (x = [] ∨ ∀ p ∈ pts x, p ≠ []) ∧ x.length ≤ 100
theorem jn_len : ∀ ps : List (List Nat), (ps.map (·.length)).sum + ps.length ≤ (jn ps).length + 1
  | [] => by simp [TL.joinL]
  | [p] => by simp [TL.joinL]
  | p :: q :: ps => by
    have := jn_len (q :: ps)
    rw [jn_cons p (by simp)]
    simp only [List.map_cons, List.sum_cons, List.length_cons, List.length_append] at this ⊢
    omega
theorem jn_take_ne {ps : List (List Nat)} (h : ∀ p ∈ ps, p ≠ []) {k : Nat} (hk : 0 < k) (hl : k ≤ ps.length) : jn (ps.take k) ≠ [] := by
  cases ps with
  | nil => simp at hl; omega
  | cons p ps =>
    cases k with
    | zero => omega
    | succ k =>
      rw [List.take_succ_cons]
      have hp := h p (by simp)
      cases e : ps.take k with
      | nil => simpa [TL.joinL] using hp
      | cons q qs => rw [jn_cons p (by simp)]; simp
theorem pts_take {x : List Nat} {k : Nat} (hk : 0 < k) (hl : k ≤ (pts x).length) : pts (jn ((pts x).take k)) = (pts x).take k := by
  refine TL.spl_join ?_ fun p hp => spl_dot x [] (by simp) p (List.mem_of_mem_take hp)
  intro e
  have := congrArg List.length e
  rw [List.length_take, List.length_nil] at this
  omega
/-- the names above, the nearest first -/
def ups (ps : List (List Nat)) : Nat → List (List Nat)
  | 0 => []
  | k + 1 => jn (ps.take k) :: ups ps k
theorem ups_mem {ps : List (List Nat)} {o : List Nat} : ∀ {n : Nat}, o ∈ ups ps n ↔ ∃ k, k < n ∧ o = jn (ps.take k)
  | 0 => by simp [ups]
  | n + 1 => by
    simp only [ups, List.mem_cons, ups_mem (n := n)]
    constructor
    · rintro (h | ⟨k, h, e⟩)
      · exact ⟨n, by omega, h⟩
      · exact ⟨k, by omega, e⟩
    · rintro ⟨k, h, e⟩
      by_cases q : k = n
      · subst q; exact .inl e
      · exact .inr ⟨k, by omega, e⟩
def above (x : List Nat) : List (List Nat) := if x = [] then [] else ups (pts x) (pts x).length
def under (x o : List Nat) : Bool := (o == [] || o == x) || (decide ((o ++ [46]).length ≤ x.length) && (x.take (o ++ [46]).length == o ++ [46]))
theorem under_iff {x o : List Nat} (h : VN x) : under x o = (o == x || (above x).contains o) := by
  rw [Bool.eq_iff_iff]
  unfold under above
  simp only [Bool.or_eq_true, Bool.and_eq_true, beq_iff_eq, decide_eq_true_eq, List.contains_iff_mem]
  by_cases hx : x = []
  · subst hx
    simp
  · rw [if_neg hx]
    have hn : 0 < (pts x).length := List.length_pos_iff.mpr (spl_ne x [])
    constructor
    · rintro ((h1 | h1) | ⟨h1, h2⟩)
      · exact .inr (ups_mem.mpr ⟨0, hn, by subst h1; simp [TL.joinL]⟩)
      · exact .inl h1
      · refine .inr (ups_mem.mpr ?_)
        have e : x = o ++ 46 :: x.drop (o.length + 1) := by
          have := List.take_append_drop (o ++ [46]).length x
          rw [h2] at this
          simp at this
          exact this.symm
        have e2 : pts x = pts o ++ pts (x.drop (o.length + 1)) := by
          show TL.spl [46] 0 [] x = _
          rw [e, spl_app]
          simp
        have h3 : 0 < (pts (x.drop (o.length + 1))).length := List.length_pos_iff.mpr (spl_ne _ [])
        refine ⟨(pts o).length, ?_, ?_⟩
        · rw [e2, List.length_append]; omega
        · rw [e2, List.take_left]
          have := jn_spl o []
          simpa using this.symm
    · rintro (h1 | h1)
      · exact .inl (.inr h1)
      · obtain ⟨k, hk, rfl⟩ := ups_mem.mp h1
        by_cases q : k = 0
        · subst q; exact .inl (.inl (by simp [TL.joinL]))
        · refine .inr ?_
          have hd : (pts x).drop k ≠ [] := by intro z; have := congrArg List.length z; rw [List.length_drop, List.length_nil] at this; omega
          have ht : (pts x).take k ≠ [] := by intro z; have := congrArg List.length z; rw [List.length_take, List.length_nil] at this; omega
          have e : x = jn ((pts x).take k) ++ 46 :: jn ((pts x).drop k) := by
            rw [← jn_app ht hd, List.take_append_drop]
            have := jn_spl x []
            simpa using this.symm
          have e3 : (jn ((pts x).take k) ++ [46]) ++ jn ((pts x).drop k) = x := by simpa using e.symm
          generalize jn ((pts x).take k) ++ [46] = A at e3 ⊢
          generalize jn ((pts x).drop k) = B at e3
          subst e3
          exact ⟨by simp, by simp⟩
/-! ### what the program does -/
theorem pts_len {x : List Nat} : ((pts x).map (·.length)).sum + (pts x).length ≤ x.length + 1 := by
  have := jn_len (pts x)
  rwa [show jn (pts x) = x from by simpa using jn_spl x []] at this
theorem sum_take : ∀ (ps : List (List Nat)) (k : Nat), ((ps.take k).map (·.length)).sum + (ps.take k).length ≤ (ps.map (·.length)).sum + ps.length
  | [], k => by simp
  | p :: ps, 0 => by simp
  | p :: ps, k + 1 => by
    have := sum_take ps k
    simp only [List.take_succ_cons, List.map_cons, List.sum_cons, List.length_cons] at this ⊢
    omega
theorem join_take (x : List Nat) (hx : x.length ≤ 1000000) (k : Nat) (O : Sto) : joinF (.str [46]) [.lst (((pts x).take k).map D.str)] O = .ok (.str (jn ((pts x).take k))) O := by
  refine join_lst _ _ _ ?_
  have h1 := sum_take (pts x) k
  have h2 := pts_len (x := x)
  simp only [List.length_cons, List.length_nil] at h1 ⊢
  omega
theorem noObL_tx (xs : List (List Nat)) : noObL (xs.map D.str) = true := by
  induction xs with
  | nil => rfl
  | cons a l ih => simp [noObL, noOb, ih]
theorem ups_items (ps : List (List Nat)) : ∀ n : Nat, (downD ((n : Int) - 1) (-1)).map (fun d => match d with | .int k => D.str (jn (ps.take k.toNat)) | _ => .non) = (ups ps n).map D.str
  | 0 => rfl
  | n + 1 => by
    rw [down_succ, List.map_cons, ups_items ps n]
    simp [ups]
theorem down_map (n : Nat) : downD ((n : Int) - 1) (-1) = (List.range n).map fun j : Nat => D.int ((n : Int) - 1 - (j : Int)) := by
  unfold downD
  rw [show ((n : Int) - 1 - (-1)).toNat = n from by omega]
theorem above_ok (x : List Nat) (hx : x.length ≤ 1000) (O : Sto) : closeFn fn_above [.str x] O = .ok (.tup ((above x).map D.str)) O := by
  refine close_ok (O' := []) (by simp [noObL, noOb]) ?_ (by simp [noOb, noObL_tx])
  by_cases h : x = []
  · subst h
    have hs : sizeLine = 16777216 := sizeLine_nat
    simp [fn_above, runFn_eq, B_above, above, hs]
  · have h1 := split_dot x [] (by omega)
    have hl := pts_len (x := x)
    have hf1 : fits (((pts x).length : Int) - 1) = true := by simp [fits]; omega
    have hf2 : fits (-1) = true := by decide
    have lc := lcL_map (t := nameG 2) (el := bmE tyStr joinF (constE (.str [46])) (consA (slE false (varE 1) noP (someP (varE 2))) nilA)) (st := []) (r := [some (.str x), some (.lst ((pts x).map D.str)), none]) (O := [])
      (fun j : Nat => D.int (((pts x).length : Int) - 1 - (j : Int))) (fun j : Nat => D.str (jn ((pts x).take (((pts x).length : Int) - 1 - (j : Int)).toNat))) rfl (List.range (pts x).length) []
      (fun j hj => by
        refine ⟨_, rfl, ?_⟩
        have hj' : j < (pts x).length := List.mem_range.mp hj
        obtain ⟨k, hk⟩ : ∃ k : Nat, ((pts x).length : Int) - 1 - (j : Int) = k := ⟨(((pts x).length : Int) - 1 - (j : Int)).toNat, by omega⟩
        have hk2 : k ≤ (pts x).length := by omega
        rw [hk]
        have hc : cutD ((pts x).map D.str) none (some (k : Int)) = ((pts x).map D.str).take k := cut_take _ (by simpa using hk2)
        have hj2 := join_take x (by omega) k []
        rw [List.map_take] at hj2
        simp [tyStr, hc, hj2])
      (by simp [sizeLine_nat]; omega)
    have e2 : (List.range (pts x).length).map (fun j : Nat => D.str (jn ((pts x).take (((pts x).length : Int) - 1 - (j : Int)).toNat))) = (ups (pts x) (pts x).length).map D.str := by
      rw [← ups_items, down_map, List.map_map]
      rfl
    rw [e2, ← down_map] at lc
    have hx0 : (x == ([] : List Nat)) = false := by simpa using h
    simp [fn_above, runFn_eq, B_above, above, h, hx0, tyStr, h1, range3F, hf1, hf2, wipeR, lc]
theorem eqv_str (a b : List Nat) : eqv (.str a) (.str b) = (a == b) := by simp [eqv]
theorem under_ok (x o : List Nat) (hx : x.length ≤ 1000) (ho : o.length ≤ 1000) (O : Sto) : closeFn fn_is_under [.str x, .str o] O = .ok (.bl (under x o)) O := by
  have hs : sizeLine = 16777216 := sizeLine_nat
  refine close_ok (O' := []) (by simp [noObL, noOb]) ?_ rfl
  have hz : o.length + 1 ≤ 16777216 := by omega
  have hin : inB false (.str o) (.tup [.str [], .str x]) [] = .ok (.bl (([] == o) || (x == o))) [] := by
    simp [inB, dicOf, seqR, flatD, eqv_str]
  have e1 : (([] : List Nat) == o) = (o == []) := by rw [Bool.eq_iff_iff, beq_iff_eq, beq_iff_eq]; exact eq_comm
  have e2 : (x == o) = (o == x) := by rw [Bool.eq_iff_iff, beq_iff_eq, beq_iff_eq]; exact eq_comm
  rw [e1, e2] at hin
  unfold under
  cases q : (o == [] || o == x) with
  | true =>
    rw [q] at hin
    simp [fn_is_under, runFn_eq, B_is_under, hs, hin]
  | false =>
    rw [q] at hin
    simp [fn_is_under, runFn_eq, B_is_under, hs, hin, tyStr, hz, startswithF]
abbrev SG : List Nat := [97, 98, 99, 100, 101, 102, 103, 104, 105, 106, 107, 108, 109, 110, 111, 112, 113, 114, 115, 116, 117, 118, 119, 120, 121, 122, 48, 49, 50, 51, 52, 53, 54, 55, 56, 57, 95]
def inSg (c : Nat) : Bool := hasSub [c] SG && decide ([c].length ≤ SG.length)
def good (p : List Nat) : Bool := (decide (1 ≤ p.length) && decide (p.length ≤ 8)) && p.all inSg
theorem all_ok (p : List Nat) (hp : p.length ≤ 1000) (x0 x1 x2 x3 x4 : Option D) (O : Sto) (h4 : x4 = some (.str p)) :
    callE allF (consA (lcE false (seqI (varE 4)) (nameG 3) yesT (op2 (inB false) (varE 3) (constE c_SIGNS_names)) [3]) nilA) [x0, x1, x2, x3, x4] O = .ok (.bl (p.all inSg)) O := by
  subst h4
  have lc := lcL_map (t := nameG 3) (el := op2 (inB false) (varE 3) (constE c_SIGNS_names)) (st := []) (r := [x0, x1, x2, none, some (.str p)]) (O := O) (fun c : Nat => D.str [c]) (fun c : Nat => D.bl (inSg c)) rfl p []
    (fun c hc => ⟨_, rfl, by simp only [ev_op2, ev_const, c_SIGNS_names]; simp [inSg]⟩) (by simp [sizeLine_nat]; omega)
  simp [wipeR, lc, all_map]
theorem fit_ok (p : List Nat) (hp : p.length ≤ 1000) (x0 x1 x2 x3 x4 : Option D) (O : Sto) (h4 : x4 = some (.str p)) :
    andE (chainE leD leD (constE (.int 1)) (callE lenF (consA (varE 4) nilA)) (constE c_PART_MOST)) (callE allF (consA (lcE false (seqI (varE 4)) (nameG 3) yesT (op2 (inB false) (varE 3) (constE c_SIGNS_names)) [3]) nilA)) [x0, x1, x2, x3, x4] O = .ok (.bl (good p)) O := by
  have hs : sizeLine = 16777216 := sizeLine_nat
  have ha := fun O' => all_ok p hp x0 x1 x2 x3 x4 O' h4
  subst h4
  have hz : p.length ≤ 16777216 := by omega
  rw [ev_andE]
  simp only [ha]
  by_cases q1 : 1 ≤ p.length
  · by_cases q2 : p.length ≤ 8
    · simp [c_PART_MOST, hs, hz, good, q1, q2, show (1 : Int) ≤ p.length by omega, show (p.length : Int) ≤ 8 by omega]
    · simp [c_PART_MOST, hs, hz, good, q1, q2, show (1 : Int) ≤ p.length by omega, show ¬ (p.length : Int) ≤ 8 by omega]
  · simp [c_PART_MOST, hs, hz, good, q1, show ¬ (1 : Int) ≤ p.length by omega]
theorem pts_mem_len {x p : List Nat} (hp : p ∈ pts x) : p.length ≤ x.length := by
  have h := pts_len (x := x)
  have h2 : p.length + 1 ≤ ((pts x).map (·.length)).sum + (pts x).length := by
    generalize pts x = ps at hp
    induction ps with
    | nil => simp at hp
    | cons q qs ih =>
      simp only [List.mem_cons] at hp
      simp only [List.map_cons, List.sum_cons, List.length_cons]
      rcases hp with rfl | hp
      · omega
      · have := ih hp; omega
  omega
theorem is_name_ok (x : List Nat) (hx : x.length ≤ 1000) (h0 : x ≠ []) (O : Sto) : closeFn fn_is_name [.str x] O = .ok (.bl (decide ((pts x).length ≤ 6) && (pts x).all good)) O := by
  have hs : sizeLine = 16777216 := sizeLine_nat
  refine close_ok (O' := []) (by simp [noObL, noOb]) ?_ rfl
  have sp := split_dot x [] (by omega)
  have hl := pts_len (x := x)
  have lc := lcL_map (t := nameG 4) (el := andE (chainE leD leD (constE (.int 1)) (callE lenF (consA (varE 4) nilA)) (constE c_PART_MOST)) (callE allF (consA (lcE false (seqI (varE 4)) (nameG 3) yesT (op2 (inB false) (varE 3) (constE c_SIGNS_names)) [3]) nilA))) (st := []) (r := [some (.str x), some (.lst ((pts x).map D.str)), none, none, none]) (O := []) D.str (fun p => D.bl (good p)) rfl (pts x) []
    (fun p hp => ⟨_, rfl, fit_ok p (by have := pts_mem_len hp; omega) _ _ _ _ _ [] rfl⟩) (by simp [sizeLine_nat]; omega)
  have hb : (x == ([] : List Nat)) = false := by simpa using h0
  by_cases q : (pts x).length ≤ 6
  · simp [fn_is_name, runFn_eq, B_is_name, isiD, tyD, isTy, hb, h0, tyStr, sp, wipeR, lc, all_map, c_DEEP_MOST_names, q, show ((pts x).length : Int) ≤ 6 by omega]
  · simp [fn_is_name, runFn_eq, B_is_name, isiD, tyD, isTy, hb, h0, tyStr, sp, wipeR, lc, all_map, c_DEEP_MOST_names, q, show ¬ ((pts x).length : Int) ≤ 6 by omega]
/-- the same by hand -/
theorem jn_le {b : Nat} : ∀ {ps : List (List Nat)}, (∀ p ∈ ps, p.length ≤ b) → (jn ps).length ≤ ps.length * (b + 1)
  | [], _ => by simp [TL.joinL]
  | [p], h => by have := h p (by simp); simp [TL.joinL]; omega
  | p :: q :: ps, h => by
    have h1 := h p (by simp)
    have h2 := jn_le (ps := q :: ps) fun z hz => h z (by simp at hz ⊢; exact .inr hz)
    rw [jn_cons p (by simp)]
    simp only [List.length_append, List.length_cons] at h2 ⊢
    rw [Nat.succ_mul]
    omega
theorem inSg_eq (c : Nat) : inSg c = SG.contains c := by
  unfold inSg
  rw [sub_one]; simp
theorem good_of {p : List Nat} (h1 : 1 ≤ p.length) (h2 : p.length ≤ 8) (h3 : ∀ c ∈ p, c ∈ SG) : good p = true := by
  unfold good
  simp only [Bool.and_eq_true, decide_eq_true_eq, List.all_eq_true]
  exact ⟨⟨h1, h2⟩, fun c hc => by rw [inSg_eq]; simpa using h3 c hc⟩
theorem of_good {p : List Nat} (h : good p = true) : 1 ≤ p.length ∧ p.length ≤ 8 ∧ ∀ c ∈ p, c ∈ SG := by
  unfold good at h
  simp only [Bool.and_eq_true, decide_eq_true_eq, List.all_eq_true] at h
  exact ⟨h.1.1, h.1.2, fun c hc => by have := h.2 c hc; rw [inSg_eq] at this; simpa using this⟩
/-- a name -/
def Nm (x : List Nat) : Prop := x = [] ∨ (x ≠ [] ∧ (pts x).length ≤ 6 ∧ (pts x).all good = true)
theorem SG_lt : ∀ c ∈ SG, 48 ≤ c ∧ c ≤ 122 ∧ c ≠ 46 := by decide
theorem Nm_of {ps : List (List Nat)} (h0 : ps ≠ []) (hn : ps.length ≤ 6) (hp : ∀ p ∈ ps, good p = true) : Nm (jn ps) := by
  have hd : ∀ p ∈ ps, 46 ∉ p := fun p h z => (SG_lt 46 ((of_good (hp p h)).2.2 46 z)).2.2 rfl
  have e : pts (jn ps) = ps := TL.spl_join h0 hd
  refine .inr ⟨?_, by rw [e]; exact hn, by rw [e]; exact List.all_eq_true.mpr hp⟩
  intro z
  have : pts (jn ps) = [[]] := by rw [z]; rfl
  rw [e] at this
  have := (of_good (hp [] (by rw [this]; simp))).1
  simp at this
theorem Nm.len {x : List Nat} (h : Nm x) : x.length ≤ 60 := by
  rcases h with rfl | ⟨_, h1, h2⟩
  · simp
  · have h3 := jn_le (b := 8) (ps := pts x) fun p hp => (of_good (List.all_eq_true.mp h2 p hp)).2.1
    have h4 : jn (pts x) = x := by have := jn_spl x []; simpa using this
    rw [h4] at h3; omega
theorem mem_pts {x : List Nat} {c : Nat} (hc : c ∈ x) (h : c ≠ 46) : ∃ p ∈ pts x, c ∈ p := by
  have h4 : jn (pts x) = x := by have := jn_spl x []; simpa using this
  have gen : ∀ ps : List (List Nat), c ∈ jn ps → ∃ p ∈ ps, c ∈ p := by
    intro ps
    induction ps with
    | nil => intro h; simp [TL.joinL] at h
    | cons p ps ih =>
      intro hc
      cases ps with
      | nil => simp [TL.joinL] at hc; exact ⟨p, by simp, hc⟩
      | cons q qs =>
        rw [jn_cons p (by simp)] at hc
        rcases List.mem_append.mp hc with hc | hc
        · exact ⟨p, by simp, hc⟩
        · rcases List.mem_cons.mp hc with rfl | hc
          · exact absurd rfl h
          · obtain ⟨r, hr, hcr⟩ := ih hc
            exact ⟨r, by simp at hr ⊢; exact .inr hr, hcr⟩
  exact gen (pts x) (by rw [h4]; exact hc)
theorem Nm.chars {x : List Nat} (h : Nm x) : ∀ c ∈ x, c ∈ SG ∨ c = 46 := by
  rcases h with rfl | ⟨_, h1, h2⟩
  · simp
  · intro c hc
    by_cases q : c = 46
    · exact .inr q
    · obtain ⟨p, hp, hcp⟩ := mem_pts hc q
      exact .inl ((of_good (List.all_eq_true.mp h2 p hp)).2.2 c hcp)
theorem Nm.is {x : List Nat} (h : Nm x) (O : Sto) : closeFn fn_is_name [.str x] O = .ok (.bl true) O := by
  by_cases h0 : x = []
  · subst h0
    refine close_ok (O' := []) (by simp [noObL, noOb]) ?_ rfl
    simp [fn_is_name, runFn_eq, B_is_name, isiD, tyD, isTy]
  · rcases h with rfl | ⟨_, h1, h2⟩
    · exact absurd rfl h0
    · have hl := Nm.len (.inr ⟨h0, h1, h2⟩)
      rw [is_name_ok x (by omega) h0, h2, decide_eq_true h1]; rfl
/-- whether a text is one -/
def isNm (x : List Nat) : Bool := x == [] || (decide ((pts x).length ≤ 6) && (pts x).all good)
theorem isNm_ok (x : List Nat) (hx : x.length ≤ 1000) (O : Sto) : closeFn fn_is_name [.str x] O = .ok (.bl (isNm x)) O := by
  unfold isNm
  by_cases h0 : x = []
  · subst h0
    refine close_ok (O' := []) (by simp [noObL, noOb]) ?_ rfl
    simp [fn_is_name, runFn_eq, B_is_name, isiD, tyD, isTy]
  · rw [is_name_ok x hx h0, beq_eq_false_iff_ne.mpr h0]; rfl
theorem isNm_iff {x : List Nat} : isNm x = true ↔ Nm x := by
  unfold isNm Nm
  by_cases h0 : x = []
  · simp [h0]
  · simp [h0]
end Dn
set_option linter.all false
set_option maxRecDepth 100000
namespace Dn.LibC
open Dn PySem Lib
def Q__law_name_1 : DS0 :=
  (setS 4 (op2 (addD false) (varE 4) (op2 ixD (varE 3) (op2 modD (op2 (addD false) (op2 (addD false) (op2 fdivD (varE 0) (constE (.int 192))) (op2 (mulD false) (constE (.int 5)) (varE 2))) (op2 (mulD false) (constE (.int 7)) (varE 5))) (constE (.int 37))))))
def Q__law_name_2 : DS0 :=
  (consS (setS 3 (constE (.str [97, 98, 99, 100, 101, 102, 103, 104, 105, 106, 107, 108, 109, 110, 111, 112, 113, 114, 115, 116, 117, 118, 119, 120, 121, 122, 48, 49, 50, 51, 52, 53, 54, 55, 56, 57, 95])))
    (consS (setS 4 (constE (.str [])))
    (consS (forS (callI range1F (consA (op2 (addD false) (op2 modD (op2 (addD false) (op2 fdivD (varE 0) (constE (.int 24))) (op2 (mulD false) (constE (.int 3)) (varE 2))) (constE (.int 8))) (constE (.int 1))) nilA)) (nameG 5)
    Q__law_name_1)
    (exprS (bmE tyLst appendF (varE 1) (consA (varE 4) nilA))))))
def B__law_name : DS0 :=
  (consS (ifS (cmpT gtD (fnE 3 (closeFn fn__law_d) (consA (varE 0) (consA (constE (.int 1)) (consA (constE (.int 4)) nilA)))) (constE (.int 0)))
    (retS (op2 ixD (lstE false (consA (constE (.str [])) (consA (constE (.str [97])) (consA (constE (.str [97, 46, 98])) (consA (constE (.str [97, 46, 98, 46, 99])) (consA (constE (.str [98])) (consA (constE (.str [97, 98])) (consA (constE (.str [97, 46, 98, 50])) (consA (constE (.str [98, 46, 97])) nilA))))))))) (fnE 3 (closeFn fn__law_d) (consA (varE 0) (consA (constE (.int 4)) (consA (constE (.int 8)) nilA))))))
    nilS)
    (consS (setS 1 (lstE true nilA))
    (consS (forS (callI range1F (consA (op2 (addD false) (fnE 3 (closeFn fn__law_d) (consA (varE 0) (consA (constE (.int 4)) (consA (constE (.int 6)) nilA)))) (constE (.int 1))) nilA)) (nameG 2)
    Q__law_name_2)
    (retS (bmE tyStr joinF (constE (.str [46])) (consA (varE 1) nilA))))))
def fn__law_name : Fn := runFn 6 B__law_name
def Q__law_words_1 : DS0 :=
  (setS 3 (op2 (addD false) (varE 3) (op2 ixD (varE 2) (op2 modD (op2 (addD false) (op2 fdivD (varE 0) (constE (.int 405))) (op2 (mulD false) (varE 4) (op2 (addD false) (fnE 3 (closeFn fn__law_d) (consA (varE 0) (consA (constE (.int 7)) (consA (constE (.int 94)) nilA)))) (constE (.int 1))))) (constE (.int 94))))))
def B__law_words : DS0 :=
  (consS (setS 2 (constE (.str [32, 33, 34, 35, 36, 38, 39, 40, 41, 42, 43, 44, 45, 46, 47, 48, 49, 50, 51, 52, 53, 54, 55, 56, 57, 58, 59, 60, 61, 62, 63, 64, 65, 66, 67, 68, 69, 70, 71, 72, 73, 74, 75, 76, 77, 78, 79, 80, 81, 82, 83, 84, 85, 86, 87, 88, 89, 90, 91, 92, 93, 94, 95, 96, 97, 98, 99, 100, 101, 102, 103, 104, 105, 106, 107, 108, 109, 110, 111, 112, 113, 114, 115, 116, 117, 118, 119, 120, 121, 122, 123, 124, 125, 126])))
    (consS (ifS (cmpT eqD (fnE 3 (closeFn fn__law_d) (consA (varE 0) (consA (constE (.int 1)) (consA (constE (.int 5)) nilA)))) (constE (.int 0)))
    (retS (op2 ixD (lstE false (consA (constE (.str [])) (consA (constE (.str [97])) (consA (constE (.str [100, 105, 115, 107])) (consA (constE (.str [32, 97, 32, 32, 98, 32])) (consA (constE (.str [105, 116, 39, 115])) (consA (constE (.str [100, 105, 115, 107, 32, 102, 117, 108, 108])) nilA))))))) (fnE 3 (closeFn fn__law_d) (consA (varE 0) (consA (constE (.int 5)) (consA (constE (.int 6)) nilA))))))
    nilS)
    (consS (setS 3 (constE (.str [])))
    (consS (forS (callI range1F (consA (fnE 3 (closeFn fn__law_d) (consA (varE 0) (consA (constE (.int 5)) (consA (op2 (addD false) (varE 1) (constE (.int 1))) nilA)))) nilA)) (nameG 4)
    Q__law_words_1)
    (retS (varE 3))))))
def fn__law_words : Fn := runFn 5 B__law_words
def B__law_atom : DS0 :=
  (consS (setS 1 (fnE 3 (closeFn fn__law_d) (consA (varE 0) (consA (constE (.int 1)) (consA (constE (.int 5)) nilA)))))
    (consS (ifS (cmpT ltD (varE 1) (constE (.int 2)))
    (retS (op2 ixD (lstE false (consA (tupE (consA (constE (.str [121, 101, 115])) nilA)) (consA (tupE (consA (constE (.str [110, 111])) nilA)) nilA))) (varE 1)))
    nilS)
    (consS (ifS (cmpT eqD (varE 1) (constE (.int 2)))
    (retS (tupE (consA (constE (.str [108, 101, 118, 101, 108])) (consA (fnE 3 (closeFn fn__law_d) (consA (varE 0) (consA (constE (.int 5)) (consA (constE (.int 100)) nilA)))) nilA))))
    nilS)
    (consS (ifS (cmpT eqD (varE 1) (constE (.int 3)))
    (retS (tupE (consA (constE (.str [117, 110, 100, 101, 114])) (consA (fnE 1 (closeFn fn__law_name) (consA (op2 fdivD (varE 0) (constE (.int 5))) nilA)) nilA))))
    nilS)
    (retS (tupE (consA (constE (.str [104, 97, 115])) (consA (replE [39] [] (fnE 2 (closeFn fn__law_words) (consA (op2 fdivD (varE 0) (constE (.int 5))) (consA (constE (.int 6)) nilA)))) nilA))))))))
def fn__law_atom : Fn := runFn 2 B__law_atom
def Q__law_field_1 : DS0 :=
  (ifS (truT (bmE tyStr startswithF (varE 0) (consA (op2 (addD false) (varE 1) (varE 2)) nilA)))
    (consS (setS 3 (lcE false (callI range2F (consA (constE (.int 1)) (consA (constE (.int 41)) nilA))) (nameG 4) (cmpT eqD (callE strF (consA (varE 4) nilA)) (slE false (varE 0) (someP (op2 (addD false) (callE lenF (consA (varE 1) nilA)) (constE (.int 1)))) noP)) (varE 4) [4]))
    (ifS (truT (varE 3))
    (retS (tupE (consA (constE (.str [102, 105, 101, 108, 100])) (consA (varE 1) (consA (varE 2) (consA (op2 ixD (varE 3) (constE (.int 0))) nilA))))))
    nilS))
    nilS)
def Q__law_field_2 : DS0 :=
  (consS (ifS (cmpT eqD (varE 0) (varE 1))
    (retS (tupE (consA (constE (.str [102, 105, 101, 108, 100])) (consA (varE 1) (consA (constE (.str [])) (consA (constE (.int 0)) nilA))))))
    nilS)
    (forS (seqI (constE (.str [60, 62, 61]))) (nameG 2)
    Q__law_field_1))
def B__law_field : DS0 :=
  (consS (forS (seqI (lstE false (consA (constE (.str [109, 111, 109, 101, 110, 116])) (consA (constE (.str [108, 101, 118, 101, 108])) (consA (constE (.str [110, 97, 109, 101])) (consA (constE (.str [119, 111, 114, 100, 115])) nilA)))))) (nameG 1)
    Q__law_field_2)
    (retS (constE .non)))
def fn__law_field : Fn := runFn 5 B__law_field
def Q__law_files_1 : DS0 :=
  (asgS (subG (varE 1) (varE 2)) (methE 2 2 fn_Disk_text (varE 0) (consA (varE 2) nilA)))
def B__law_files : DS0 :=
  (consS (setS 1 dic0E)
    (consS (forS (seqI (methE 2 1 fn_Disk_files (varE 0) nilA)) (nameG 2)
    Q__law_files_1)
    (retS (varE 1))))
def fn__law_files : Fn := runFn 3 B__law_files
def Q__law_form_text_1 : DS0 :=
  (consS (setS 1 (op2 (addD false) (varE 1) (varE 3)))
    (ifS (cmpT (inB false) (varE 3) (constE (.str [123, 125])))
    (setS 1 (op2 (addD false) (varE 1) (varE 3)))
    nilS))
def Q__law_form_text_2 : DS0 :=
  (ifS (cmpT eqD (op2 ixD (varE 2) (constE (.int 0))) (constE (.str [116, 101, 120, 116])))
    (forS (seqI (op2 ixD (varE 2) (constE (.int 1)))) (nameG 3)
    Q__law_form_text_1)
    (ifS (cmpT eqD (op2 ixD (varE 2) (constE (.int 2))) (constE (.str [])))
    (setS 1 (op2 (addD false) (op2 (addD false) (op2 (addD false) (varE 1) (constE (.str [123]))) (op2 ixD (varE 2) (constE (.int 1)))) (constE (.str [125]))))
    (setS 1 (op2 (addD false) (op2 (addD false) (op2 (addD false) (op2 (addD false) (op2 (addD false) (varE 1) (constE (.str [123]))) (op2 ixD (varE 2) (constE (.int 1)))) (op2 ixD (varE 2) (constE (.int 2)))) (callE strF (consA (op2 ixD (varE 2) (constE (.int 3))) nilA))) (constE (.str [125]))))))
def B__law_form_text : DS0 :=
  (consS (setS 1 (constE (.str [])))
    (consS (forS (seqI (varE 0)) (nameG 2)
    Q__law_form_text_2)
    (retS (varE 1))))
def fn__law_form_text : Fn := runFn 4 B__law_form_text
def B__law_full : DS0 :=
  (consS (setS 4 (getE2 (varE 0) (constE (.str [108, 111, 103])) (constE (.str []))))
    (consS (ifS (cmpT eqD (varE 4) (constE (.str [])))
    (retS (constE (.bl false)))
    nilS)
    (consS (setS 5 (callE intF (consA (op2 ixD (bmE tyStr (splitF false) (varE 4) (consA (constE (.str [32])) nilA)) (constE (.int 1))) nilA)))
    (retS (orE (op2 gtD (op2 (addD false) (callE lenF (consA (varE 4) nilA)) (callE lenF (consA (varE 1) nilA))) (varE 3)) (op2 neD (op2 fdivD (varE 5) (constE (.int 86400))) (op2 fdivD (varE 2) (constE (.int 86400)))))))))
def fn__law_full : Fn := runFn 6 B__law_full
def Q__law_gate_1 : DS0 :=
  (ifS (andT (cmpT eqD (fnE 3 (closeFn fn__law_d) (consA (varE 2) (consA (constE (.int 1)) (consA (constE (.int 4)) nilA)))) (constE (.int 0))) (truT (varE 1)))
    (exprS (bmE tyLst appendF (varE 1) (consA (tupE (consA (constE (.str [110, 111, 116])) (consA (bmE tyLst pop0F (varE 1) nilA) nilA))) nilA)))
    (ifS (andT (cmpT eqD (fnE 3 (closeFn fn__law_d) (consA (varE 2) (consA (constE (.int 1)) (consA (constE (.int 4)) nilA)))) (constE (.int 1))) (cmpT gtD (callE lenF (consA (varE 1) nilA)) (constE (.int 1))))
    (consS (setS 3 (bmE tyLst pop0F (varE 1) nilA))
    (exprS (bmE tyLst appendF (varE 1) (consA (tupE (consA (op2 ixD (lstE false (consA (constE (.str [97, 110, 100])) (consA (constE (.str [111, 114])) nilA))) (fnE 3 (closeFn fn__law_d) (consA (varE 2) (consA (constE (.int 4)) (consA (constE (.int 2)) nilA))))) (consA (bmE tyLst pop0F (varE 1) nilA) (consA (varE 3) nilA)))) nilA))))
    (exprS (bmE tyLst appendF (varE 1) (consA (fnE 1 (closeFn fn__law_atom) (consA (op2 fdivD (varE 2) (constE (.int 4))) nilA)) nilA)))))
def Q__law_gate_2 : DS0 :=
  (setS 4 (tupE (consA (op2 ixD (lstE false (consA (constE (.str [111, 114])) (consA (constE (.str [97, 110, 100])) nilA))) (op2 modD (op2 (addD false) (varE 5) (callE lenF (consA (varE 1) nilA))) (constE (.int 2)))) (consA (varE 4) (consA (varE 6) nilA)))))
def B__law_gate : DS0 :=
  (consS (setS 1 (lstE true nilA))
    (consS (forS (seqI (varE 0)) (nameG 2)
    Q__law_gate_1)
    (consS (setS 4 (tupE (consA (constE (.str [121, 101, 115])) nilA)))
    (consS (forS (callI enumF (consA (varE 1) nilA)) (tupG 2 (consG (nameG 5) (consG (nameG 6) nilG)))
    Q__law_gate_2)
    (retS (varE 4))))))
def fn__law_gate : Fn := runFn 7 B__law_gate
def Q__law_level_1 : DS0 :=
  (consS (ifS (cmpT eqD (varE 0) (op2 (mulD false) (constE (.int 10)) (varE 2)))
    (retS (op2 ixD (varE 1) (varE 2)))
    nilS)
    (ifS (cmpT gtD (varE 0) (op2 (mulD false) (constE (.int 10)) (varE 2)))
    (retS (op2 (addD false) (op2 (addD false) (op2 ixD (varE 1) (varE 2)) (constE (.str [43]))) (callE strF (consA (op2 subD (varE 0) (op2 (mulD false) (constE (.int 10)) (varE 2))) nilA))))
    nilS))
def B__law_level : DS0 :=
  (consS (setS 1 (lstE false (consA (constE (.str [97, 108, 108])) (consA (constE (.str [100, 101, 98, 117, 103])) (consA (constE (.str [105, 110, 102, 111])) (consA (constE (.str [119, 97, 114, 110])) (consA (constE (.str [101, 114, 114, 111, 114])) (consA (constE (.str [102, 97, 116, 97, 108])) nilA))))))))
    (consS (forS (callI range3F (consA (constE (.int 5)) (consA (op1 negD (constE (.int 1))) (consA (op1 negD (constE (.int 1))) nilA)))) (nameG 2)
    Q__law_level_1)
    (retS (constE (.str [])))))
def fn__law_level : Fn := runFn 3 B__law_level
def Q__law_laid_1 : DS0 :=
  (consS (ifS (cmpT eqD (op2 ixD (varE 3) (constE (.int 0))) (constE (.str [116, 101, 120, 116])))
    (consS (setS 2 (op2 (addD false) (varE 2) (op2 ixD (varE 3) (constE (.int 1)))))
    contS)
    nilS)
    (consS (setS 4 (lstE false (consA (callE strF (consA (op2 ixD (varE 1) (constE (.int 0))) nilA)) (consA (fnE 1 (closeFn fn__law_level) (consA (op2 ixD (varE 1) (constE (.int 1))) nilA)) (consA (orE (op2 ixD (varE 1) (constE (.int 2))) (constE (.str [42]))) (consA (op2 ixD (varE 1) (constE (.int 3))) nilA))))))
    (consS (setS 5 (op2 ixD (varE 4) (bmE tyLst indexF (lstE false (consA (constE (.str [109, 111, 109, 101, 110, 116])) (consA (constE (.str [108, 101, 118, 101, 108])) (consA (constE (.str [110, 97, 109, 101])) (consA (constE (.str [119, 111, 114, 100, 115])) nilA))))) (consA (op2 ixD (varE 3) (constE (.int 1))) nilA))))
    (consS (ifS (cmpT eqD (op2 ixD (varE 3) (constE (.int 2))) (constE (.str [61])))
    (setS 5 (slE false (varE 5) noP (someP (op2 ixD (varE 3) (constE (.int 3))))))
    nilS)
    (consS (setS 6 (op2 mulS2D (constE (.str [32])) (callE max2F (consA (op2 subD (op2 ixD (varE 3) (constE (.int 3))) (callE lenF (consA (varE 5) nilA))) (consA (constE (.int 0)) nilA)))))
    (consS (ifS (cmpT eqD (op2 ixD (varE 3) (constE (.int 2))) (constE (.str [62])))
    (setS 5 (op2 (addD false) (varE 6) (varE 5)))
    (ifS (cmpT neD (op2 ixD (varE 3) (constE (.int 2))) (constE (.str [])))
    (setS 5 (op2 (addD false) (varE 5) (varE 6)))
    nilS))
    (setS 2 (op2 (addD false) (varE 2) (varE 5)))))))))
def B__law_laid : DS0 :=
  (consS (setS 2 (constE (.str [])))
    (consS (forS (seqI (varE 0)) (nameG 3)
    Q__law_laid_1)
    (retS (varE 2))))
def fn__law_laid : Fn := runFn 7 B__law_laid
def Q__law_up_1 : DS0 :=
  (consS (setS 0 (bmE tyStr joinF (constE (.str [46])) (consA (slE false (bmE tyStr (splitF false) (varE 0) (consA (constE (.str [46])) nilA)) noP (someP (op1 negD (constE (.int 1))))) nilA)))
    (exprS (bmE tyLst appendF (varE 1) (consA (varE 0) nilA))))
def B__law_up : DS0 :=
  (consS (setS 1 (lstE true (consA (varE 0) nilA)))
    (consS (whileS 100000 (cmpT neD (varE 0) (constE (.str [])))
    Q__law_up_1)
    (retS (varE 1))))
def fn__law_up : Fn := runFn 2 B__law_up
def B__law_level_of : DS0 :=
  (retS (op2 ixD (lcE false (seqI (fnE 1 fn__law_up (consA (varE 1) nilA))) (nameG 2) (cmpT (inB false) (varE 2) (varE 0)) (op2 ixD (varE 0) (varE 2)) [2]) (constE (.int 0))))
def fn__law_level_of : Fn := runFn 3 B__law_level_of
def B__law_mix : DS0 :=
  (retS (op2 modD (op2 modD (op2 (mulD false) (varE 0) (constE (.int 48271))) (varE 1)) (varE 2)))
def fn__law_mix : Fn := runFn 3 B__law_mix
def B__law_or : DS0 :=
  (consS (ifS (cmpT isNoneD (varE 0) (constE .non))
    (retS (constE (.str [114, 101, 102, 117, 115, 101, 100])))
    nilS)
    (retS (varE 0)))
def fn__law_or : Fn := runFn 1 B__law_or
def Q__law_parts_1 : DS0 :=
  (ifS (andT (cmpT eqD (fnE 3 (closeFn fn__law_d) (consA (varE 2) (consA (constE (.int 1)) (consA (constE (.int 3)) nilA)))) (constE (.int 0))) (orT (notT (truT (varE 1))) (cmpT neD (op2 ixD (op2 ixD (varE 1) (op1 negD (constE (.int 1)))) (constE (.int 0))) (constE (.str [116, 101, 120, 116])))))
    (consS (setS 3 (orE (fnE 2 (closeFn fn__law_words) (consA (op2 fdivD (varE 2) (constE (.int 3))) (consA (constE (.int 9)) nilA))) (constE (.str [125, 123]))))
    (consS (ifS (cmpT eqD (fnE 3 (closeFn fn__law_d) (consA (varE 2) (consA (constE (.int 3)) (consA (constE (.int 4)) nilA)))) (constE (.int 0)))
    (setS 3 (op2 (addD false) (op2 ixD (lstE false (consA (constE (.str [123])) (consA (constE (.str [125])) (consA (constE (.str [123, 123, 125, 125])) (consA (constE (.str [97, 123, 98, 125])) (consA (constE (.str [123, 119, 111, 114, 100, 115, 125])) (consA (constE (.str [125, 125, 123])) nilA))))))) (fnE 3 (closeFn fn__law_d) (consA (varE 2) (consA (constE (.int 12)) (consA (constE (.int 6)) nilA))))) (varE 3)))
    nilS)
    (setS 1 (op2 (addD false) (varE 1) (tupE (consA (tupE (consA (constE (.str [116, 101, 120, 116])) (consA (varE 3) nilA))) nilA))))))
    (consS (setS 4 (op2 ixD (lstE false (consA (constE (.str [109, 111, 109, 101, 110, 116])) (consA (constE (.str [108, 101, 118, 101, 108])) (consA (constE (.str [110, 97, 109, 101])) (consA (constE (.str [119, 111, 114, 100, 115])) nilA))))) (fnE 3 (closeFn fn__law_d) (consA (varE 2) (consA (constE (.int 3)) (consA (constE (.int 4)) nilA))))))
    (consS (setS 5 (op2 ixD (lstE false (consA (constE (.str [])) (consA (constE (.str [60])) (consA (constE (.str [62])) (consA (constE (.str [61])) nilA))))) (fnE 3 (closeFn fn__law_d) (consA (varE 2) (consA (constE (.int 12)) (consA (constE (.int 4)) nilA))))))
    (consS (setS 6 (constE (.int 0)))
    (consS (ifS (cmpT neD (varE 5) (constE (.str [])))
    (setS 6 (op2 (addD false) (fnE 3 (closeFn fn__law_d) (consA (varE 2) (consA (constE (.int 48)) (consA (constE (.int 40)) nilA)))) (constE (.int 1))))
    nilS)
    (setS 1 (op2 (addD false) (varE 1) (tupE (consA (tupE (consA (constE (.str [102, 105, 101, 108, 100])) (consA (varE 4) (consA (varE 5) (consA (varE 6) nilA))))) nilA)))))))))
def B__law_parts : DS0 :=
  (consS (setS 1 (tupE nilA))
    (consS (forS (seqI (varE 0)) (nameG 2)
    Q__law_parts_1)
    (retS (varE 1))))
def fn__law_parts : Fn := runFn 7 B__law_parts
-- a group that calls itself: _law_passes
def B__law_passes (r__law_passes : Fn) : DS0 :=
  (consS (setS 2 (op2 ixD (varE 0) (constE (.int 0))))
    (consS (ifS (cmpT eqD (varE 2) (constE (.str [110, 111, 116])))
    (retS (notE (fnE 2 (closeFn r__law_passes) (consA (op2 ixD (varE 0) (constE (.int 1))) (consA (varE 1) nilA)))))
    nilS)
    (consS (ifS (cmpT (inB false) (varE 2) (tupE (consA (constE (.str [97, 110, 100])) (consA (constE (.str [111, 114])) nilA))))
    (consS (setS 3 (lcE false (seqI (slE false (varE 0) (someP (constE (.int 1))) noP)) (nameG 4) yesT (fnE 2 (closeFn r__law_passes) (consA (varE 4) (consA (varE 1) nilA))) [4]))
    (retS (orE (op2 eqD (varE 3) (lstE false (consA (constE (.bl true)) (consA (constE (.bl true)) nilA)))) (andE (op2 eqD (varE 2) (constE (.str [111, 114]))) (op2 (inB false) (constE (.bl true)) (varE 3))))))
    nilS)
    (consS (ifS (cmpT eqD (varE 2) (constE (.str [108, 101, 118, 101, 108])))
    (retS (notE (op2 ltD (op2 ixD (varE 1) (constE (.int 1))) (op2 ixD (varE 0) (constE (.int 1))))))
    nilS)
    (consS (ifS (cmpT eqD (varE 2) (constE (.str [117, 110, 100, 101, 114])))
    (retS (orE (op2 eqD (op2 ixD (varE 0) (constE (.int 1))) (constE (.str []))) (bmE tyStr startswithF (op2 (addD false) (op2 ixD (varE 1) (constE (.int 2))) (constE (.str [46]))) (consA (op2 (addD false) (op2 ixD (varE 0) (constE (.int 1))) (constE (.str [46]))) nilA))))
    nilS)
    (consS (ifS (cmpT eqD (varE 2) (constE (.str [104, 97, 115])))
    (retS (op2 geD (bmE tyStr find1F (op2 ixD (varE 1) (constE (.int 3))) (consA (op2 ixD (varE 0) (constE (.int 1))) nilA)) (constE (.int 0))))
    nilS)
    (retS (op2 eqD (varE 2) (constE (.str [121, 101, 115]))))))))))
def fn__law_passes : Nat → Fn
  | 0 => fun _ _ => .bad
  | n + 1 => runFn 5 (B__law_passes (fn__law_passes n))
def B__law_place : DS0 :=
  (retS (op2 (addD false) (constE (.str [108, 111, 103])) (ifE (truT (varE 0)) (op2 (addD false) (constE (.str [46])) (callE strF (consA (varE 0) nilA))) (constE (.str [])))))
def fn__law_place : Fn := runFn 1 B__law_place
def Q__law_read_form_1 : DS0 :=
  (consS (setS 4 (op2 ixD (varE 0) (varE 3)))
    (consS (ifS (orT (cmpT (inB true) (varE 4) (constE (.str [123, 125]))) (cmpT eqD (slE false (varE 0) (someP (varE 3)) (someP (op2 (addD false) (varE 3) (constE (.int 2))))) (op2 (addD false) (varE 4) (varE 4))))
    (consS (setS 2 (op2 (addD false) (varE 2) (varE 4)))
    (consS (setS 3 (op2 (addD false) (varE 3) (ifE (cmpT (inB false) (varE 4) (constE (.str [123, 125]))) (constE (.int 2)) (constE (.int 1)))))
    contS))
    nilS)
    (consS (setS 5 (constE .non))
    (consS (ifS (andT (cmpT eqD (varE 4) (constE (.str [123]))) (cmpT (inB false) (constE (.str [125])) (slE false (varE 0) (someP (varE 3)) noP)))
    (setS 5 (fnE 1 (closeFn fn__law_field) (consA (slE false (varE 0) (someP (op2 (addD false) (varE 3) (constE (.int 1)))) (someP (bmE tyStr find2F (varE 0) (consA (constE (.str [125])) (consA (varE 3) nilA))))) nilA)))
    nilS)
    (consS (ifS (cmpT isNoneD (varE 5) (constE .non))
    (retS (tupE (consA (constE (.str [98, 97, 100])) (consA (varE 3) nilA))))
    nilS)
    (consS (ifS (cmpT neD (varE 2) (constE (.str [])))
    (exprS (bmE tyLst appendF (varE 1) (consA (tupE (consA (constE (.str [116, 101, 120, 116])) (consA (varE 2) nilA))) nilA)))
    nilS)
    (consS (setS 2 (constE (.str [])))
    (consS (exprS (bmE tyLst appendF (varE 1) (consA (varE 5) nilA)))
    (setS 3 (op2 (addD false) (bmE tyStr find2F (varE 0) (consA (constE (.str [125])) (consA (varE 3) nilA))) (constE (.int 1))))))))))))
def B__law_read_form : DS0 :=
  (consS (setS 1 (lstE true nilA))
    (consS (setS 2 (constE (.str [])))
    (consS (setS 3 (constE (.int 0)))
    (consS (whileS 100000 (cmpT ltD (varE 3) (callE lenF (consA (varE 0) nilA)))
    Q__law_read_form_1)
    (consS (ifS (cmpT neD (varE 2) (constE (.str [])))
    (exprS (bmE tyLst appendF (varE 1) (consA (tupE (consA (constE (.str [116, 101, 120, 116])) (consA (varE 2) nilA))) nilA)))
    nilS)
    (retS (tupE (consA (constE (.str [102, 111, 114, 109])) (consA (callE tupleF (consA (varE 1) nilA)) nilA)))))))))
def fn__law_read_form : Fn := runFn 6 B__law_read_form
def B__law_record : DS0 :=
  (consS (setS 1 (op2 modD (op2 fdivD (varE 0) (constE (.int 3))) (constE (.int 1000000000))))
    (consS (ifS (cmpT eqD (fnE 3 (closeFn fn__law_d) (consA (varE 0) (consA (constE (.int 1)) (consA (constE (.int 3)) nilA)))) (constE (.int 0)))
    (setS 1 (op2 ixD (lstE false (consA (constE (.int 0)) (consA (constE (.int 86399)) (consA (constE (.int 86400)) (consA (constE (.int 999999999)) (consA (constE (.int 86401)) (consA (constE (.int 172800)) nilA))))))) (fnE 3 (closeFn fn__law_d) (consA (varE 0) (consA (constE (.int 3)) (consA (constE (.int 6)) nilA))))))
    nilS)
    (consS (setS 2 (fnE 3 (closeFn fn__law_mix) (consA (varE 0) (consA (constE (.int 9973)) (consA (constE (.int 100)) nilA)))))
    (consS (ifS (cmpT eqD (fnE 3 (closeFn fn__law_d) (consA (varE 0) (consA (constE (.int 1)) (consA (constE (.int 2)) nilA)))) (constE (.int 0)))
    (setS 2 (op2 (mulD false) (constE (.int 10)) (op2 modD (varE 2) (constE (.int 6)))))
    nilS)
    (retS (tupE (consA (varE 1) (consA (varE 2) (consA (fnE 1 (closeFn fn__law_name) (consA (op2 fdivD (varE 0) (constE (.int 7))) nilA)) (consA (fnE 2 (closeFn fn__law_words) (consA (op2 fdivD (varE 0) (constE (.int 5))) (consA (constE (.int 80)) nilA))) nilA))))))))))
def fn__law_record : Fn := runFn 3 B__law_record
def Q__law_records_1 : DS0 :=
  (consS (setS 2 (op2 (addD false) (varE 2) (op2 ixD (lstE false (consA (constE (.int 0)) (consA (constE (.int 1)) (consA (constE (.int 40000)) (consA (constE (.int 86400)) nilA))))) (fnE 3 (closeFn fn__law_d) (consA (varE 3) (consA (constE (.int 1)) (consA (constE (.int 4)) nilA)))))))
    (consS (setS 4 (op2 ixD (lstE false (consA (constE (.str [])) (consA (constE (.str [97])) (consA (constE (.str [97, 46, 98])) (consA (constE (.str [98])) nilA))))) (fnE 3 (closeFn fn__law_d) (consA (varE 3) (consA (constE (.int 4)) (consA (constE (.int 4)) nilA))))))
    (consS (setS 5 (op2 ixD (lstE false (consA (constE (.int 0)) (consA (constE (.int 10)) (consA (constE (.int 30)) (consA (constE (.int 35)) (consA (constE (.int 50)) (consA (constE (.int 99)) nilA))))))) (fnE 3 (closeFn fn__law_d) (consA (varE 3) (consA (constE (.int 16)) (consA (constE (.int 6)) nilA))))))
    (consS (setS 6 (lstE false (consA (constE (.str [])) (consA (constE (.str [97])) (consA (constE (.str [100, 105, 115, 107, 32, 102, 117, 108, 108])) (consA (constE (.str [32, 98, 32])) (consA (op2 mulSD (constE (.str [97])) (constE (.int 30))) (consA (op2 mulS2D (constE (.str [97, 98])) (fnE 3 (closeFn fn__law_d) (consA (varE 3) (consA (constE (.int 960)) (consA (constE (.int 9)) nilA))))) nilA))))))))
    (consS (setS 6 (op2 ixD (varE 6) (fnE 3 (closeFn fn__law_d) (consA (varE 3) (consA (constE (.int 96)) (consA (constE (.int 6)) nilA))))))
    (setS 1 (op2 (addD false) (varE 1) (tupE (consA (tupE (consA (varE 2) (consA (varE 5) (consA (varE 4) (consA (varE 6) nilA))))) nilA)))))))))
def B__law_records : DS0 :=
  (consS (setS 1 (tupE nilA))
    (consS (setS 2 (constE (.int 0)))
    (consS (forS (seqI (varE 0)) (nameG 3)
    Q__law_records_1)
    (retS (varE 1)))))
def fn__law_records : Fn := runFn 7 B__law_records
def B__law_row : DS0 :=
  (retS (bmE tyStr joinF (constE (.str [32])) (consA (lstE false (consA (callE strF (consA (varE 0) nilA)) (consA (callE strF (consA (op2 ixD (varE 1) (constE (.int 0))) nilA)) (consA (fnE 1 (closeFn fn__law_level) (consA (op2 ixD (varE 1) (constE (.int 1))) nilA)) (consA (orE (op2 ixD (varE 1) (constE (.int 2))) (constE (.str [42]))) (consA (op2 ixD (varE 1) (constE (.int 3))) nilA)))))) nilA)))
def fn__law_row : Fn := runFn 2 B__law_row
-- a group that calls itself: _law_shown
def B__law_shown (r__law_shown : Fn) : DS0 :=
  (consS (setS 1 (op2 ixD (varE 0) (constE (.int 0))))
    (consS (ifS (cmpT (inB false) (varE 1) (tupE (consA (constE (.str [121, 101, 115])) (consA (constE (.str [110, 111])) nilA))))
    (retS (tupE (consA (varE 1) (consA (constE (.int 3)) nilA))))
    nilS)
    (consS (ifS (cmpT eqD (varE 1) (constE (.str [108, 101, 118, 101, 108])))
    (retS (tupE (consA (op2 (addD false) (constE (.str [108, 101, 118, 101, 108, 32])) (callE strF (consA (op2 ixD (varE 0) (constE (.int 1))) nilA))) (consA (constE (.int 3)) nilA))))
    nilS)
    (consS (ifS (cmpT eqD (varE 1) (constE (.str [117, 110, 100, 101, 114])))
    (retS (tupE (consA (op2 (addD false) (constE (.str [117, 110, 100, 101, 114, 32])) (orE (op2 ixD (varE 0) (constE (.int 1))) (constE (.str [42])))) (consA (constE (.int 3)) nilA))))
    nilS)
    (consS (ifS (cmpT eqD (varE 1) (constE (.str [104, 97, 115])))
    (retS (tupE (consA (op2 (addD false) (op2 (addD false) (constE (.str [104, 97, 115, 32, 39])) (op2 ixD (varE 0) (constE (.int 1)))) (constE (.str [39]))) (consA (constE (.int 3)) nilA))))
    nilS)
    (consS (setS 2 (lcE false (seqI (slE false (varE 0) (someP (constE (.int 1))) noP)) (nameG 3) yesT (fnE 1 (closeFn r__law_shown) (consA (varE 3) nilA)) [3]))
    (consS (ifS (cmpT eqD (varE 1) (constE (.str [110, 111, 116])))
    (consS (asgS (tupG 2 (consG (nameG 4) (consG (nameG 5) nilG))) (op2 ixD (varE 2) (constE (.int 0))))
    (consS (ifS (cmpT ltD (varE 5) (constE (.int 3)))
    (setS 4 (op2 (addD false) (op2 (addD false) (constE (.str [40])) (varE 4)) (constE (.str [41]))))
    nilS)
    (retS (tupE (consA (op2 (addD false) (constE (.str [110, 111, 116, 32])) (varE 4)) (consA (constE (.int 3)) nilA))))))
    nilS)
    (consS (setS 6 (lstE false (consA (op2 (addD false) (bmE tyLst indexF (lstE false (consA (constE (.str [111, 114])) (consA (constE (.str [97, 110, 100])) nilA))) (consA (varE 1) nilA)) (constE (.int 1))) (consA (op2 (addD false) (bmE tyLst indexF (lstE false (consA (constE (.str [111, 114])) (consA (constE (.str [97, 110, 100])) nilA))) (consA (varE 1) nilA)) (constE (.int 2))) nilA))))
    (consS (setS 7 (lcE false (callI zipF (consA (varE 2) (consA (varE 6) nilA))) (tupG 2 (consG (tupG 2 (consG (nameG 4) (consG (nameG 5) nilG))) (consG (nameG 8) nilG))) yesT (ifE (cmpT geD (varE 5) (varE 8)) (varE 4) (op2 (addD false) (op2 (addD false) (constE (.str [40])) (varE 4)) (constE (.str [41])))) [4, 5, 8]))
    (retS (tupE (consA (op2 (addD false) (op2 (addD false) (op2 (addD false) (op2 (addD false) (op2 ixD (varE 7) (constE (.int 0))) (constE (.str [32]))) (varE 1)) (constE (.str [32]))) (op2 ixD (varE 7) (constE (.int 1)))) (consA (op2 ixD (varE 6) (constE (.int 0))) nilA)))))))))))))
def fn__law_shown : Nat → Fn
  | 0 => fun _ _ => .bad
  | n + 1 => runFn 9 (B__law_shown (fn__law_shown n))
def B__law_small : DS0 :=
  (consS (setS 2 (op2 ixD (lstE false (consA (constE (.str [])) (consA (constE (.str [97])) (consA (constE (.str [97, 46, 98])) (consA (constE (.str [98])) nilA))))) (fnE 3 (closeFn fn__law_d) (consA (varE 0) (consA (constE (.int 1)) (consA (constE (.int 4)) nilA))))))
    (consS (setS 3 (op2 ixD (lstE false (consA (constE (.int 0)) (consA (constE (.int 10)) (consA (constE (.int 30)) (consA (constE (.int 35)) (consA (constE (.int 50)) (consA (constE (.int 99)) nilA))))))) (fnE 3 (closeFn fn__law_d) (consA (varE 0) (consA (constE (.int 4)) (consA (constE (.int 6)) nilA))))))
    (retS (tupE (consA (varE 1) (consA (varE 3) (consA (varE 2) (consA (op2 ixD (lstE false (consA (constE (.str [])) (consA (constE (.str [97])) (consA (constE (.str [100, 105, 115, 107])) (consA (constE (.str [32, 98, 32])) nilA))))) (fnE 3 (closeFn fn__law_d) (consA (varE 0) (consA (constE (.int 24)) (consA (constE (.int 4)) nilA))))) nilA))))))))
def fn__law_small : Fn := runFn 4 B__law_small
def Q__law_write_1 : DS0 :=
  (asgS (subG (varE 0) (fnE 1 (closeFn fn__law_place) (consA (op2 (addD false) (varE 8) (constE (.int 1))) nilA))) (op2 ixD (varE 6) (fnE 1 (closeFn fn__law_place) (consA (varE 8) nilA))))
def B__law_write : DS0 :=
  (consS (setS 5 (op2 (addD false) (fnE 2 (closeFn fn__law_row) (consA (varE 1) (consA (varE 2) nilA))) (constE (.str [10]))))
    (consS (ifS (truT (fnE 4 fn__law_full (consA (varE 0) (consA (varE 5) (consA (op2 ixD (varE 2) (constE (.int 0))) (consA (varE 3) nilA))))))
    (consS (setS 6 (callE dictF (consA (varE 0) nilA)))
    (consS (exprS (bmE tyDic clearDF (varE 0) nilA))
    (consS (setS 7 (op2 subD (callE lenF (consA (varE 6) nilA)) (constE (.int 1))))
    (forS (callI range1F (consA (op2 (addD false) (callE min2F (consA (varE 7) (consA (op2 subD (varE 4) (constE (.int 1))) nilA))) (constE (.int 1))) nilA)) (nameG 8)
    Q__law_write_1))))
    nilS)
    (asgS (subG (varE 0) (constE (.str [108, 111, 103]))) (op2 (addD false) (getE2 (varE 0) (constE (.str [108, 111, 103])) (constE (.str []))) (varE 5)))))
def fn__law_write : Fn := runFn 9 B__law_write
end Dn.LibC
set_option linter.all false
set_option maxRecDepth 100000
set_option maxHeartbeats 4000000
namespace Dn
open PySem Lib LibC
/-! ### what the laws draw: words -/
theorem range0 (n : Int) : rangeD 0 n = (List.range n.toNat).map fun k : Nat => D.int k := by
  unfold rangeD
  rw [Int.sub_zero]
  refine List.map_congr_left fun k _ => ?_
  rw [Int.zero_add]
def sg94 : List Nat := [32, 33, 34, 35, 36, 38, 39, 40, 41, 42, 43, 44, 45, 46, 47, 48, 49, 50, 51, 52, 53, 54, 55, 56, 57, 58, 59, 60, 61, 62, 63, 64, 65, 66, 67, 68, 69, 70, 71, 72, 73, 74, 75, 76, 77, 78, 79, 80, 81, 82, 83, 84, 85, 86, 87, 88, 89, 90, 91, 92, 93, 94, 95, 96, 97, 98, 99, 100, 101, 102, 103, 104, 105, 106, 107, 108, 109, 110, 111, 112, 113, 114, 115, 116, 117, 118, 119, 120, 121, 122, 123, 124, 125, 126]
theorem sg94_len : sg94.length = 94 := by decide
theorem sg94_lt : ∀ c ∈ sg94, 32 ≤ c ∧ c ≤ 126 ∧ c ≠ 37 := by decide
theorem stepw (c m ii dd : Int) (S acc : List Nat) (ch : Nat) (x3 x4 : Option D) (O : Sto) (hld : ∀ O, closeFn fn__law_d [.int c, .int 7, .int 94] O = .ok (.int dd) O) (hmul : mulOk ii (dd + 1) = true)
  (h3 : ∀ O, ixD (.str S) (.int ((c / 405 + ii * (dd + 1)) % 94)) O = .ok (.str [ch]) O) (hl : acc.length < 10000) :
  Q__law_words_1 [some (.int c), some (.int m), some (.str S), some (.str acc), some (.int ii)] O = SR.nx [some (.int c), some (.int m), some (.str S), some (.str (acc ++ [ch])), some (.int ii)] O := by
  have hs : sizeLine = 16777216 := sizeLine_nat
  simp [Q__law_words_1, hld, hmul, h3, hs, show acc.length + 1 ≤ 16777216 by omega]
theorem words_ok (c m : Int) (h0 : 0 ≤ m) (h1 : m ≤ 1000) (O : Sto) : ∃ w : List Nat, closeFn fn__law_words [.int c, .int m] O = .ok (.str w) O ∧ (w.length : Int) ≤ max m 9 ∧ ∀ ch ∈ w, ch ∈ sg94 := by
  have hs : sizeLine = 16777216 := sizeLine_nat
  have rd := lawD_range c 5 (m + 1) (by omega)
  have key : ∃ w : List Nat, ∃ O', fn__law_words [.int c, .int m] [] = .ok (.str w) O' ∧ (w.length : Int) ≤ max m 9 ∧ ∀ ch ∈ w, ch ∈ sg94 := by
    by_cases q : lawD c 1 5 = 0
    · have r6 := lawD_range c 5 6 (by omega)
      obtain ⟨d, hm, hd⟩ := getI_some (ds := [.str [], .str [97], .str [100, 105, 115, 107], .str [32, 97, 32, 32, 98, 32], .str [105, 116, 39, 115], .str [100, 105, 115, 107, 32, 102, 117, 108, 108]]) r6.1 r6.2
      have : ∃ w : List Nat, d = .str w ∧ w.length ≤ 9 ∧ ∀ ch ∈ w, ch ∈ sg94 := by
        simp only [List.mem_cons, List.not_mem_nil, or_false] at hm
        rcases hm with rfl | rfl | rfl | rfl | rfl | rfl <;> exact ⟨_, rfl, by decide, by decide⟩
      obtain ⟨w, rfl, w1, w2⟩ := this
      refine ⟨w, [], ?_, by omega, w2⟩
      simp [fn__law_words, runFn_eq, B__law_words, law_d_c, q, hs, hd]
    · generalize hn : lawD c 5 (m + 1) = n at rd
      have lp := forL_inv (t := nameG 4) (b := Q__law_words_1) (st := []) (fun i r O => O = [] ∧ ∃ (acc : List Nat) (x4 : Option D), r = [some (.int c), some (.int m), some (.str sg94), some (.str acc), x4] ∧ acc.length ≤ i ∧ ∀ ch ∈ acc, ch ∈ sg94)
        (items := (List.range n.toNat).map fun k : Nat => D.int k) (k := 0) (r := [some (.int c), some (.int m), some (.str sg94), some (.str []), none]) (O := []) (by
          rintro i d r O hi ⟨rfl, acc, x4, rfl, hl, hc⟩
          have hlt : i < n.toNat := by
            have := (List.getElem?_eq_some_iff.mp hi).1
            simpa using this
          have hd : d = .int i := by
            rw [List.getElem?_map, List.getElem?_range hlt] at hi
            simpa using hi.symm
          subst hd
          have hr : 0 ≤ (c / 405 + (i : Int) * (lawD c 7 94 + 1)) % 94 ∧ (c / 405 + (i : Int) * (lawD c 7 94 + 1)) % 94 < 94 := ⟨Int.emod_nonneg _ (by omega), Int.emod_lt_of_pos _ (by omega)⟩
          obtain ⟨ch, h2, h3⟩ := ix_str (x := sg94) (i := (c / 405 + (i : Int) * (lawD c 7 94 + 1)) % 94) hr.1 (by rw [sg94_len]; exact hr.2) (by rw [sg94_len]; omega) []
          have h2' : ∀ ch, ixD (.str sg94) (.int ((c / 405 + (i : Int) * (lawD c 7 94 + 1)) % 94)) [] = .ok (.str [ch]) [] → ∀ O, ixD (.str sg94) (.int ((c / 405 + (i : Int) * (lawD c 7 94 + 1)) % 94)) O = .ok (.str [ch]) O := fun ch h O => by
            obtain ⟨c2, _, e2⟩ := ix_str (x := sg94) (i := (c / 405 + (i : Int) * (lawD c 7 94 + 1)) % 94) hr.1 (by rw [sg94_len]; exact hr.2) (by rw [sg94_len]; omega) O
            have h4 := h
            simp only [ixD] at h4 e2 ⊢
            split at h4
            · split at h4
              · injection h4 with h5 _; injection h5 with h5; injection h5 with h5 _; rename_i z; rw [z, if_pos (by assumption), h5]
              · cases h4
            · cases h4
          have hmul : mulOk (i : Int) (lawD c 7 94 + 1) = true := by
            unfold mulOk
            rw [decide_eq_true (show (-18446744073709551616 : Int) < i by omega), decide_eq_true (show (i : Int) < 18446744073709551616 by omega)]; rfl
          have e1 := fun O => stepw c m i (lawD c 7 94) sg94 acc ch none none O (fun O => law_d_c c 7 94 O (by omega)) hmul (h2' ch h3) (by omega)
          refine ⟨rfl, [some (.int c), some (.int m), some (.str sg94), some (.str acc), some (.int i)], [], [some (.int c), some (.int m), some (.str sg94), some (.str (acc ++ [ch])), some (.int i)], [], rfl, .inl (e1 []), rfl, acc ++ [ch], _, rfl, by simp; omega, ?_⟩
          · intro x hx
            rcases List.mem_append.mp hx with hx | hx
            · exact hc x hx
            · simp at hx; subst hx; exact h2)
        ⟨rfl, [], none, rfl, by simp, by simp⟩ (fun _ _ _ => rfl)
      obtain ⟨r', O', e, rfl, acc, x4, rfl, hl, hc⟩ := lp
      refine ⟨acc, [], ?_, by simp at hl; omega, hc⟩
      have hf : fits n = true := by simp [fits]; omega
      have e0 : B__law_words [some (.int c), some (.int m), none, none, none] [] = .ret (.str acc) [] := by
        unfold B__law_words
        refine cs_nx (r1 := [some (.int c), some (.int m), some (.str sg94), none, none]) (O1 := []) (by rfl) ?_
        generalize hS : sg94 = S at e
        refine cs_nx (by ((conv => lhs; simp [law_d_c, q]); first | done | exact rfl)) ?_
        refine cs_nx (by ((conv => lhs; simp); first | done | exact rfl)) ?_
        refine cs_nx (r1 := [some (.int c), some (.int m), some (.str S), some (.str acc), x4]) (O1 := []) ?_ (by simp)
        have hh : law_d_c = law_d_c := rfl
        simp [law_d_c, show (0 : Int) < m + 1 by omega, hn, hf, range0, e]
      simp [fn__law_words, runFn_eq, e0]
  obtain ⟨w, O', e, w1, w2⟩ := key
  exact ⟨w, close_ok rfl e rfl, w1, w2⟩
end Dn
set_option linter.all false
set_option maxRecDepth 100000
set_option maxHeartbeats 4000000
namespace Dn
open PySem Lib LibC
/-! ### what the laws draw: names -/
/-- a part by cells -/
theorem part_ok (c k : Int) (hk : 0 ≤ k) (hk2 : k < 100) (x1 : Option D) (O : Sto) : ∀ (n i : Nat) (t : List Nat) (x5 : Option D), i + n ≤ 8 → t.length = i → (∀ ch ∈ t, ch ∈ SG) →
    ∃ t' y5, forL (nameG 5) Q__law_name_1 [] ((List.range' i n).map fun j : Nat => D.int j) [some (.int c), x1, some (.int k), some (.str SG), some (.str t), x5] O = .nx [some (.int c), x1, some (.int k), some (.str SG), some (.str t'), y5] O ∧ t'.length = i + n ∧ (∀ ch ∈ t', ch ∈ SG)
  | 0, i, t, x5, _, hl, hd => ⟨t, x5, by simp [forL], by omega, hd⟩
  | n + 1, i, t, x5, hi, hl, hd => by
    have hs : sizeLine = 16777216 := sizeLine_nat
    obtain ⟨s, hm, e⟩ := ix_str (x := SG) (i := (c / 192 + 5 * k + 7 * (i : Int)) % 37) (Int.emod_nonneg _ (by omega)) (Int.emod_lt_of_pos _ (by omega)) (by simp) O
    obtain ⟨t', y5, ih, h1, h2⟩ := part_ok c k hk hk2 x1 O n (i + 1) (t ++ [s]) (some (.int i)) (by omega) (by simp [hl]) (fun ch hc => by
      rcases List.mem_append.mp hc with hc | hc
      · exact hd ch hc
      · simp at hc; rw [hc]; exact hm)
    refine ⟨t', y5, ?_, by omega, h2⟩
    have hz : t.length + 1 ≤ 16777216 := by omega
    have m1 : mulOk 5 k = true := by simp [mulOk]
    have m2 : mulOk 7 (i : Int) = true := by simp [mulOk]
    have hq : Q__law_name_1 [some (.int c), x1, some (.int k), some (.str SG), some (.str t), some (.int i)] O = .nx [some (.int c), x1, some (.int k), some (.str SG), some (.str (t ++ [s])), some (.int i)] O := by
      simp only [SG] at e
      simp [Q__law_name_1, m1, m2, e, hs, hz]
    rw [List.range'_succ, List.map_cons]
    unfold forL
    simp only [still_nil, if_true, ev_nameG, List.set, hq]
    exact ih
theorem range_is (v : Int) : rangeD 0 v = (List.range' 0 v.toNat).map fun j : Nat => D.int j := by
  simp [rangeD, List.range_eq_range']
/-- the parts by cells -/
theorem parts_ok (c : Int) : ∀ (n i : Nat) (ps : List (List Nat)) (x2 x3 x4 x5 : Option D), i + n ≤ 6 → ps.length = i → (∀ p ∈ ps, good p = true) →
    ∃ (ps' : List (List Nat)) (y2 y3 y4 y5 : Option D), forL (nameG 2) Q__law_name_2 [] ((List.range' i n).map fun j : Nat => D.int j) [some (.int c), some (.ob 0), x2, x3, x4, x5] [.lst (ps.map D.str)] = .nx [some (.int c), some (.ob 0), y2, y3, y4, y5] [.lst (ps'.map D.str)] ∧ ps'.length = i + n ∧ ∀ p ∈ ps', good p = true
  | 0, i, ps, x2, x3, x4, x5, _, hl, hp => ⟨ps, x2, x3, x4, x5, by simp [forL], by omega, hp⟩
  | n + 1, i, ps, x2, x3, x4, x5, hi, hl, hp => by
    have hs : sizeLine = 16777216 := sizeLine_nat
    have b0 := Int.emod_nonneg (c / 24 + 3 * (i : Int)) (show (8 : Int) ≠ 0 by omega)
    have b1 := Int.emod_lt_of_pos (c / 24 + 3 * (i : Int)) (show (0 : Int) < 8 by omega)
    generalize hv : (c / 24 + 3 * (i : Int)) % 8 = v at b0 b1
    obtain ⟨t, y5, e, h1, h2⟩ := part_ok c i (by omega) (by omega) (some (.ob 0)) [.lst (ps.map D.str)] (v + 1).toNat 0 [] x5 (by omega) rfl (by simp)
    rw [← range_is] at e
    have hf : fits (v + 1) = true := by simp [fits]; omega
    have m1 : mulOk 3 (i : Int) = true := by simp [mulOk]
    have hz : ps.length < 16777216 := by omega
    have hq : Q__law_name_2 [some (.int c), some (.ob 0), some (.int i), x3, x4, x5] [.lst (ps.map D.str)] = .nx [some (.int c), some (.ob 0), some (.int i), some (.str SG), some (.str t), y5] [.lst ((ps ++ [t]).map D.str)] := by
      simp only [SG] at e
      simp [Q__law_name_2, m1, hv, hf, e, hs, hz, tyLst, listR, listS, appendF]
    obtain ⟨ps', y2, y3, y4, y5', ih, h3, h4⟩ := parts_ok c n (i + 1) (ps ++ [t]) (some (.int i)) (some (.str SG)) (some (.str t)) y5 (by omega) (by simp [hl]) (fun p h => by
      simp only [List.mem_append, List.mem_singleton] at h
      rcases h with h | rfl
      · exact hp p h
      · exact good_of (by omega) (by omega) h2)
    refine ⟨ps', y2, y3, y4, y5', ?_, by omega, h4⟩
    rw [List.range'_succ, List.map_cons]
    unfold forL
    simp only [still_nil, if_true, ev_nameG, List.set, hq]
    exact ih
theorem law_name_ok (c : Int) (O : Sto) : ∃ x, Nm x ∧ closeFn fn__law_name [.int c] O = .ok (.str x) O := by
  have hs : sizeLine = 16777216 := sizeLine_nat
  have r1 := lawD_range c 1 4 (by omega)
  by_cases q : 0 < lawD c 1 4
  · obtain ⟨d, m, e⟩ := getI_some (ds := [.str [], .str [97], .str [97, 46, 98], .str [97, 46, 98, 46, 99], .str [98], .str [97, 98], .str [97, 46, 98, 50], .str [98, 46, 97]]) (lawD_range c 4 8 (by omega)).1 (lawD_range c 4 8 (by omega)).2
    have hd : ∃ x, d = .str x ∧ Nm x := by
      simp only [List.mem_cons, List.not_mem_nil, or_false] at m
      rcases m with rfl | rfl | rfl | rfl | rfl | rfl | rfl | rfl
      · exact ⟨_, rfl, .inl rfl⟩
      · exact ⟨_, rfl, Nm_of (ps := [[97]]) (by simp) (by simp) (by decide)⟩
      · exact ⟨_, rfl, Nm_of (ps := [[97], [98]]) (by simp) (by simp) (by decide)⟩
      · exact ⟨_, rfl, Nm_of (ps := [[97], [98], [99]]) (by simp) (by simp) (by decide)⟩
      · exact ⟨_, rfl, Nm_of (ps := [[98]]) (by simp) (by simp) (by decide)⟩
      · exact ⟨_, rfl, Nm_of (ps := [[97, 98]]) (by simp) (by simp) (by decide)⟩
      · exact ⟨_, rfl, Nm_of (ps := [[97], [98, 50]]) (by simp) (by simp) (by decide)⟩
      · exact ⟨_, rfl, Nm_of (ps := [[98], [97]]) (by simp) (by simp) (by decide)⟩
    obtain ⟨x, rfl, hx⟩ := hd
    refine ⟨x, hx, close_ok (O' := []) (by simp [noObL, noOb]) ?_ rfl⟩
    simp [fn__law_name, runFn_eq, B__law_name, law_d_c, q, hs, e]
  · have r2 := lawD_range c 4 6 (by omega)
    obtain ⟨ps, y2, y3, y4, y5, e, h1, h2⟩ := parts_ok c (lawD c 4 6 + 1).toNat 0 [] none none none none (by omega) rfl (by simp)
    rw [← range_is] at e
    have hf : fits (lawD c 4 6 + 1) = true := by simp [fits]; omega
    have hj := jn_le (b := 8) fun p h => (of_good (h2 p h)).2.1
    have hn : ps ≠ [] := by intro z; subst z; simp at h1; omega
    have hsum := jn_len ps
    have hz : (ps.map (·.length)).sum + ps.length ≤ 16777216 := by omega
    refine ⟨jn ps, Nm_of hn (by omega) h2, close_ok (O' := [.lst (ps.map D.str)]) (by simp [noObL, noOb]) ?_ rfl⟩
    simp only [List.map_nil] at e
    simp [fn__law_name, runFn_eq, B__law_name, law_d_c, q, hs, hf, e, tyStr, joinF, seqR, listR, listS, strsD_map, hz]
end Dn
set_option linter.all false
set_option maxRecDepth 100000
set_option maxHeartbeats 4000000
namespace Dn
open PySem Lib LibC
/-! ### levels and their words; dicts -/
/-- the words, as the program tells them -/
def lw (l : Nat) : List Nat := match fn_level_word [.int l] [] with | .ok (.str x) _ => x | _ => []
def chk (l : Nat) : Bool := (match fn_level_word [.int l] [] with | .ok (.str x) [] => x == lw l | _ => false) && (match fn__law_level [.int l] [] with | .ok (.str y) [] => y == lw l | _ => false) && decide ((lw l).length ≤ 20)
theorem chk_all : ∀ l ∈ List.range 100, chk l = true := by decide +kernel
theorem lw_nodup : ((List.range 100).map lw).Nodup := by decide +kernel
theorem getK_put (k k' : DKey) (d : D) : ∀ kvs : List (DKey × D), getK (putD kvs k d) k' = if k' = k then some d else getK kvs k' := by
  have hm : ∀ kvs : List (DKey × D), getK (kvs.map fun p => if p.1 = k then (p.1, d) else p) k' = if k' = k then (if kvs.any (fun p => decide (p.1 = k)) then some d else none) else getK kvs k' := by
    intro kvs
    induction kvs with
    | nil => simp [getK]
    | cons p kvs ih =>
      simp only [getK, List.map_cons, List.find?_cons] at ih ⊢
      by_cases h1 : p.1 = k
      · by_cases h2 : k' = k
        · subst h2; simp [h1]
        · have h3 : ¬ p.1 = k' := fun z => h2 (by rw [← z, h1])
          have h4 : ¬ k = k' := fun z => h2 z.symm
          simp only [h1, h2, h4, if_true, if_false, decide_false, List.any_cons] at ih ⊢
          simpa [h1, h2, h3, h4] using ih
      · by_cases h2 : k' = k
        · subst h2
          simp only [h1, if_false, decide_false, List.any_cons, if_true, Bool.false_or] at ih ⊢
          simpa using ih
        · simp only [h1, h2, if_false] at ih ⊢
          by_cases h3 : p.1 = k'
          · simp [h3]
          · simpa [h3] using ih
  intro kvs
  unfold putD
  split
  · rename_i h
    rw [hm, h]; simp
  · rename_i h
    by_cases h2 : k' = k
    · subst h2
      have hn : kvs.find? (fun p => decide (p.1 = k')) = none := by
        rw [List.find?_eq_none]
        intro p hp z
        exact h (List.any_eq_true.mpr ⟨p, hp, z⟩)
      simp [getK, List.find?_append, hn]
    · have h4 : ¬ k = k' := fun z => h2 z.symm
      simp [getK, List.find?_append, h2, h4]
theorem put_len (k : DKey) (d : D) (kvs : List (DKey × D)) : (putD kvs k d).length ≤ kvs.length + 1 := by
  unfold putD; split <;> simp
theorem lw_ok (l : Nat) (h : l < 100) (O : Sto) : closeFn fn_level_word [.int l] O = .ok (.str (lw l)) O ∧ closeFn fn__law_level [.int l] O = .ok (.str (lw l)) O ∧ (lw l).length ≤ 20 := by
  have := chk_all l (List.mem_range.mpr h)
  simp only [chk, Bool.and_eq_true, decide_eq_true_eq] at this
  obtain ⟨⟨a, b⟩, c⟩ := this
  refine ⟨?_, ?_, c⟩
  · split at a
    · rename_i x e
      rw [beq_iff_eq] at a
      exact close_ok rfl (by rw [e, a]) rfl
    · cases a
  · split at b
    · rename_i x e
      rw [beq_iff_eq] at b
      exact close_ok rfl (by rw [e, b]) rfl
    · cases b
theorem lw_inj {i j : Nat} (hi : i < j) (hj : j < 100) : lw i ≠ lw j := by
  have := lw_nodup
  rw [List.Nodup, List.pairwise_map, List.pairwise_iff_getElem] at this
  have h := this i j (by simp; omega) (by simp; omega) hi
  simpa using h
/-- the first level with a word -/
def fst (t : List Nat) (i n : Nat) : Option Nat := (List.range' i n).find? fun j => lw j == t
theorem rd_loop (t : List Nat) (O : Sto) : ∀ (n i : Nat) (x1 : Option D), i + n ≤ 100 → ∃ y1,
    forL (nameG 1) Q_read_level_1 [] ((List.range' i n).map fun j : Nat => D.int j) [some (.str t), x1] O = match fst t i n with | some l => .ret (.int l) O | none => .nx [some (.str t), y1] O
  | 0, i, x1, _ => ⟨x1, by simp [forL, fst]⟩
  | n + 1, i, x1, h => by
    obtain ⟨y1, ih⟩ := rd_loop t O n (i + 1) (some (.int i)) (by omega)
    have hw := (lw_ok i (by omega) O).1
    refine ⟨y1, ?_⟩
    rw [List.range'_succ, List.map_cons]
    unfold forL
    simp only [still_nil, if_true, ev_nameG, List.set]
    cases q : (lw i == t) with
    | true =>
      have hq : Q_read_level_1 [some (.str t), some (.int i)] O = .ret (.int i) O := by simp [Q_read_level_1, hw, q]
      rw [hq]
      simp [fst, List.range'_succ, q]
    | false =>
      have hq : Q_read_level_1 [some (.str t), some (.int i)] O = .nx [some (.str t), some (.int i)] O := by simp [Q_read_level_1, hw, q]
      rw [hq]
      have e : fst t i (n + 1) = fst t (i + 1) n := by simp [fst, List.range'_succ, q]
      rw [e]
      exact ih
theorem rd_ok (t : List Nat) (O : Sto) : closeFn fn_read_level [.str t] O = match fst t 0 100 with | some l => .ok (.int l) O | none => .exc ⟨1, []⟩ O := by
  obtain ⟨y1, lp⟩ := rd_loop t [] 100 0 none (by omega)
  have hr : rangeD 0 100 = (List.range' 0 100).map fun j : Nat => D.int j := by
    simp only [rangeD, List.range_eq_range']
    simp
  have hf : fits 100 = true := by decide
  cases q : fst t 0 100 with
  | some l =>
    rw [q] at lp
    refine close_ok (O' := []) rfl ?_ rfl
    simp [fn_read_level, runFn_eq, B_read_level, Lib.c_LEVEL_MOST, hf, hr, lp]
  | none =>
    rw [q] at lp
    have key : fn_read_level [.str t] [] = .exc ⟨1, []⟩ [] := by
      simp [fn_read_level, runFn_eq, B_read_level, Lib.c_LEVEL_MOST, hf, hr, lp, raiseS]
    unfold closeFn
    rw [if_pos (show noObL [D.str t] = true from rfl), key]
    rfl
theorem fst_none (t : List Nat) : ∀ n i, fst t i n = none ↔ ∀ j, i ≤ j → j < i + n → lw j ≠ t := by
  intro n i
  unfold fst
  rw [List.find?_eq_none]
  constructor
  · intro h j h1 h2 z
    exact h j (List.mem_range'_1.mpr ⟨h1, h2⟩) (by simp [z])
  · intro h j hj z
    obtain ⟨h1, h2⟩ := List.mem_range'_1.mp hj
    exact h j h1 h2 (by simpa using z)
theorem fst_lw {l : Nat} (h : l < 100) : fst (lw l) 0 100 = some l := by
  cases q : fst (lw l) 0 100 with
  | none => exact absurd rfl ((fst_none (lw l) 100 0).mp q l (by omega) (by omega))
  | some k =>
    unfold fst at q
    have h1 := List.find?_some q
    have h2 := List.mem_of_find?_eq_some q
    have h3 := (List.mem_range'_1.mp h2).2
    simp at h1
    rcases Nat.lt_trichotomy k l with z | z | z
    · exact absurd h1 (lw_inj z h)
    · rw [z]
    · exact absurd h1.symm (lw_inj z (by omega))
theorem rd_lw {l : Nat} (h : l < 100) (O : Sto) : closeFn fn_read_level [.str (lw l)] O = .ok (.int l) O := by
  rw [rd_ok, fst_lw h]
theorem lw_chars : ∀ l ∈ List.range 100, ∀ c ∈ lw l, 43 ≤ c ∧ c ≤ 122 := by decide +kernel
end Dn
set_option linter.all false
set_option maxRecDepth 100000
set_option maxHeartbeats 4000000
namespace Dn
open PySem Lib
/-! ### folds: texts written short -/
def plus (n : Nat) : List Tx := if n = 0 then [] else [43 :: TL.numL n]
def runLen (t : Tx) (ts : List Tx) : Nat := (ts.takeWhile (· == t)).length
theorem runLen_le (t : Tx) (ts : List Tx) : runLen t ts ≤ ts.length := by
  unfold runLen
  exact (List.takeWhile_prefix _).length_le
def rowsOf : List Tx → List Tx
  | [] => []
  | t :: ts => (61 :: t) :: (plus (runLen t ts) ++ rowsOf (ts.drop (runLen t ts)))
termination_by ts => ts.length
decreasing_by simp; omega
theorem getI_app {pre post : List D} {d : D} {i : Int} (h : i = pre.length) : getI (pre ++ d :: post) i = some d := by
  subst h
  rw [getI_nat (by omega) (by simp; omega)]
  simp
/-- the inner loop of short -/
theorem short_in (pre : List Tx) (t : Tx) (x1 : Option D) (O : Sto) : ∀ (rest mid : List Tx) (fuel : Nat), rest.length < fuel →
    whileL (andT (cmpT ltD (op2 (addD false) (op2 (addD false) (varE 2) (varE 3)) (constE (.int 1))) (callE lenF (consA (varE 0) nilA))) (cmpT eqD (op2 ixD (varE 0) (op2 (addD false) (op2 (addD false) (varE 2) (varE 3)) (constE (.int 1)))) (op2 ixD (varE 0) (varE 2))))
      Q_short_1 fuel [some (.tup (tsD (pre ++ t :: (mid ++ rest)))), x1, some (.int pre.length), some (.int mid.length)] O =
    .nx [some (.tup (tsD (pre ++ t :: (mid ++ rest)))), x1, some (.int pre.length), some (.int (mid.length + runLen t rest : Nat))] O
  | [], mid, 0, h => absurd h (by simp)
  | [], mid, fuel + 1, h => by
    rw [while_f (O1 := O) (by simp; omega)]
    simp [runLen]
  | u :: rest, mid, 0, h => absurd h (by simp)
  | u :: rest, mid, fuel + 1, h => by
    have e1 : getI (tsD (pre ++ t :: (mid ++ u :: rest))) (pre.length + mid.length + 1) = some (.str u) := by
      have : tsD (pre ++ t :: (mid ++ u :: rest)) = tsD (pre ++ t :: mid) ++ .str u :: tsD rest := by simp
      rw [this]; exact getI_app (by simp; omega)
    have e2 : getI (tsD (pre ++ t :: (mid ++ u :: rest))) pre.length = some (.str t) := by
      have : tsD (pre ++ t :: (mid ++ u :: rest)) = tsD pre ++ .str t :: tsD (mid ++ u :: rest) := by simp
      rw [this]; exact getI_app (by simp)
    have e3 : (pre.length : Int) + mid.length + 1 < ((tsD (pre ++ t :: (mid ++ u :: rest))).length : Int) := by simp; omega
    generalize hL : tsD (pre ++ t :: (mid ++ u :: rest)) = L at e1 e2 e3 ⊢
    cases q : (u == t) with
    | true =>
      refine while_t (O1 := O) (by simp [e1, e2, e3, q]) (r2 := [some (.tup L), x1, some (.int pre.length), some (.int (mid.length + 1))]) (O2 := O) (by simp [Q_short_1]) ?_
      have ih := short_in pre t x1 O rest (mid ++ [u]) fuel (by simp at h; omega)
      rw [show (mid ++ [u]) ++ rest = mid ++ u :: rest from by simp, hL] at ih
      have hr : runLen t (u :: rest) = runLen t rest + 1 := by simp [runLen, List.takeWhile_cons, q]
      rw [hr]
      simp only [List.length_append, List.length_singleton, Int.natCast_add, Int.natCast_one] at ih ⊢
      rw [ih]
      simp
      omega
    | false =>
      rw [while_f (O1 := O) (by simp [e1, e2, e3, q])]
      have hr : runLen t (u :: rest) = 0 := by simp [runLen, List.takeWhile_cons, q]
      rw [hr]; rfl
theorem drop_run (t : Tx) (ts : List Tx) : ∃ mid, ts = mid ++ ts.drop (runLen t ts) ∧ mid.length = runLen t ts :=
  ⟨ts.take (runLen t ts), (List.take_append_drop _ _).symm, by rw [List.length_take]; have := runLen_le t ts; omega⟩
/-- the outer one -/
theorem short_out (all : List Tx) (hall : all.length ≤ 9000) (hz : ∀ t ∈ all, t.length ≤ 1000) (x3 : Option D) : ∀ (n : Nat) (suf pre : List Tx) (acc : List Tx) (fuel : Nat) (x3 : Option D), suf.length ≤ n → all = pre ++ suf → suf.length < fuel → acc.length ≤ 2 * pre.length →
    ∃ y3, whileL (cmpT ltD (varE 2) (callE lenF (consA (varE 0) nilA))) Q_short_2 fuel [some (.tup (tsD all)), some (.ob 0), some (.int pre.length), x3] [.lst (tsD acc)] =
      .nx [some (.tup (tsD all)), some (.ob 0), some (.int all.length), y3] [.lst (tsD (acc ++ rowsOf suf))]
  | n, [], pre, acc, 0, x3, h1, h2, h3, h4 => absurd h3 (by simp)
  | n, [], pre, acc, fuel + 1, x3, h1, h2, h3, h4 => by
    refine ⟨x3, ?_⟩
    rw [while_f (O1 := [.lst (tsD acc)]) (by subst h2; simp)]
    subst h2
    simp [rowsOf]
  | n, t :: ts, pre, acc, 0, x3, h1, h2, h3, h4 => absurd h3 (by simp)
  | 0, t :: ts, pre, acc, fuel + 1, x3, h1, h2, h3, h4 => absurd h1 (by simp)
  | n + 1, t :: ts, pre, acc, fuel + 1, x3, h1, h2, h3, h4 => by
    have hs : sizeLine = 16777216 := sizeLine_nat
    obtain ⟨mid, e1, e2⟩ := drop_run t ts
    have hr := runLen_le t ts
    generalize hk : runLen t ts = k at *
    have hlen : all.length = pre.length + ts.length + 1 := by rw [h2]; simp; omega
    have ht : t.length ≤ 1000 := hz t (by rw [h2]; simp)
    have e3 : getI (tsD all) (pre.length : Int) = some (.str t) := by
      rw [h2]
      have : tsD (pre ++ t :: ts) = tsD pre ++ .str t :: tsD ts := by simp
      rw [this]; exact getI_app (by simp)
    have hin := short_in pre t (some (.ob 0)) [.lst (tsD acc)] ts [] 100000 (by omega)
    simp only [List.nil_append, hk, List.length_nil, Nat.zero_add, Int.natCast_zero] at hin
    rw [← h2] at hin
    have hnum : (TL.numL k).length ≤ 4 := numL_len (by omega) (by omega)
    have hlog : (k : Int).natAbs.log2 < 1920 := log2_small (by omega) (by omega)
    obtain ⟨y3, ih⟩ := short_out all hall hz none n (ts.drop k) (pre ++ t :: mid) (acc ++ [61 :: t] ++ plus k) fuel (some (.int k)) (by simp at h1 ⊢; omega) (by rw [h2]; simp; exact e1) (by simp at h3 ⊢; omega) (by
      have : (plus k).length ≤ 1 := by unfold plus; split <;> simp
      simp; omega)
    refine ⟨y3, ?_⟩
    refine while_t (O1 := [.lst (tsD acc)]) (by simp; omega) (r2 := [some (.tup (tsD all)), some (.ob 0), some (.int (pre ++ t :: mid).length), some (.int k)]) (O2 := [.lst (tsD (acc ++ [61 :: t] ++ plus k))]) ?_ ?_
    · have ha : acc.length < 16777216 := by omega
      have ha' : acc.length + 1 < 16777216 := by omega
      have hnext : (pre.length : Int) + k + 1 = ((pre ++ t :: mid).length : Nat) := by simp; omega
      unfold Q_short_2
      refine cs_nx (r1 := [some (.tup (tsD all)), some (.ob 0), some (.int pre.length), some (.int 0)]) (O1 := [.lst (tsD acc)]) (by simp) ?_
      refine cs_nx (r1 := [some (.tup (tsD all)), some (.ob 0), some (.int pre.length), some (.int k)]) (O1 := [.lst (tsD acc)]) (by rw [ev_whileS]; exact hin) ?_
      generalize tsD all = L at e3
      refine cs_nx (r1 := [some (.tup L), some (.ob 0), some (.int pre.length), some (.int k)]) (O1 := [.lst (tsD (acc ++ [61 :: t]))]) (by
        simp [e3, tyLst, listR, listS, appendF, hs, ha, show 1 + t.length ≤ 16777216 by omega]) ?_
      by_cases hk0 : k = 0
      · subst hk0
        refine cs_nx (r1 := [some (.tup L), some (.ob 0), some (.int pre.length), some (.int (0 : Nat))]) (O1 := [.lst (tsD (acc ++ [61 :: t]))]) (by simp) ?_
        simp only [ev_setS, ev_op2, ev_var', List.getElem?_cons_zero, List.getElem?_cons_succ, bind_ok', op_addI, ev_const, bindS_ok', hnext, List.set, plus, if_true, List.append_nil]
      · refine cs_nx (r1 := [some (.tup L), some (.ob 0), some (.int pre.length), some (.int k)]) (O1 := [.lst (tsD (acc ++ [61 :: t] ++ plus k))]) (by
          simp [show 0 < k by omega, joinE, consJ, nilJ, fmtE, fmtD, show k.log2 < 1920 by simpa using hlog, numT_nat, hs, tyLst, listR, listS, appendF, ha', plus, hk0, show 1 + (TL.numL k).length ≤ 16777216 by omega]) ?_
        simp only [ev_setS, ev_op2, ev_var', List.getElem?_cons_zero, List.getElem?_cons_succ, bind_ok', op_addI, ev_const, bindS_ok', hnext, List.set]
    · rw [ih]
      congr 2
      rw [rowsOf, hk]
      simp
theorem rowsOf_len (ts : List Tx) : (rowsOf ts).length ≤ 2 * ts.length := by
  induction h : ts.length using Nat.strongRecOn generalizing ts with
  | _ n ih =>
    cases ts with
    | nil => simp [rowsOf]
    | cons t ts =>
      rw [rowsOf]
      have := ih (ts.drop (runLen t ts)).length (by simp at h ⊢; omega) _ rfl
      have hp : (plus (runLen t ts)).length ≤ runLen t ts := by
        unfold plus
        split
        · simp
        · simp; omega
      have hr := runLen_le t ts
      have h1 := List.length_drop (i := runLen t ts) (l := ts)
      simp at h ⊢
      omega
theorem noOb_tsD (ts : List Tx) : noObL (tsD ts) = true := by
  induction ts with
  | nil => rfl
  | cons t ts ih => simp only [tsD, List.map_cons, noObL, noOb, Bool.true_and]; exact ih
theorem short_ok (all : List Tx) (hall : all.length ≤ 9000) (hz : ∀ t ∈ all, t.length ≤ 1000) (O : Sto) : closeFn fn_short [.tup (tsD all)] O = .ok (.tup (tsD (rowsOf all))) O := by
  have hs : sizeLine = 16777216 := sizeLine_nat
  obtain ⟨y3, h⟩ := short_out all hall hz none all.length all [] [] 100000 none (Nat.le_refl _) rfl (by omega) (by simp)
  refine close_ok (O' := [.lst (tsD (rowsOf all))]) ?_ ?_ ?_
  · simp only [noObL, noOb, noOb_tsD, Bool.and_true]
  · simp only [List.length_nil, Int.natCast_zero, List.nil_append] at h
    have : B_short [some (.tup (tsD all)), none, none, none] [] = .ret (.tup (tsD (rowsOf all))) [.lst (tsD (rowsOf all))] := by
      unfold B_short
      refine cs_nx (r1 := [some (.tup (tsD all)), some (.ob 0), none, none]) (O1 := [.lst []]) (by simp) ?_
      refine cs_nx (r1 := [some (.tup (tsD all)), some (.ob 0), some (.int 0), none]) (O1 := [.lst []]) (by simp) ?_
      refine cs_nx (by rw [ev_whileS]; exact h) ?_
      simp [tupleF, seqR, listR, listS]
    simp [fn_short, runFn_eq, this]
  · simp only [noOb, noOb_tsD]
end Dn
set_option linter.all false
set_option maxRecDepth 100000
set_option maxHeartbeats 4000000
namespace Dn
open PySem Lib
def isFig (c : Nat) : Bool := decide (48 ≤ c) && decide (c ≤ 57)
def figs10 : List Nat := [48, 49, 50, 51, 52, 53, 54, 55, 56, 57]
theorem figs_isFig (c : Nat) : figs10.contains c = isFig c := by
  rw [Bool.eq_iff_iff]
  simp [figs10, isFig]
  omega
/-- all([sign in "0123456789" for sign in text]) -/
theorem all_figs (x : Tx) (hx : x.length ≤ 1000000) (r : Rho) (i : Nat) (hi : i < r.length) (O : Sto) :
    (lcL (nameG i) yesT (op2 (inB false) (varE i) (constE (.str figs10))) [] r (x.map fun c => D.str [c]) [] O) = .ok (x.map fun c => D.bl (isFig c)) O := by
  have := lcL_map (t := nameG i) (el := op2 (inB false) (varE i) (constE (.str figs10))) (st := []) (r := r) (O := O) (fun c : Nat => D.str [c]) (fun c : Nat => D.bl (isFig c)) rfl x []
    (fun c hc => ⟨_, rfl, by
      simp only [ev_op2, ev_var', List.getElem?_set_self hi, bind_ok', ev_const, op_inS, sub_one, figs_isFig]
      simp [figs10]⟩) (by rw [sizeLine_nat]; simp; omega)
  simpa using this
/-- how often a row tells the text ahead once more -/
def timesOf (row : Tx) : Option Nat := if row.take 1 = [43] ∧ 1 ≤ (row.drop 1).length ∧ (row.drop 1).length ≤ 3 ∧ (row.drop 1).all isFig = true ∧ (row.drop 1).head? ≠ some 48 then some (NumText.digitsVal (row.drop 1)) else none
theorem times_ok (row : Tx) (hr : row.length ≤ 1000000) (O : Sto) : closeFn fn_times_of [.str row] O = match timesOf row with | some n => .ok (.int n) O | none => .exc ⟨2, []⟩ O := by
  have hs : sizeLine = 16777216 := sizeLine_nat
  have hd : (row.drop 1).length ≤ 1000000 := by simp; omega
  have key : ∃ O', fn_times_of [.str row] [] = match timesOf row with | some n => .ok (.int n) O' | none => .exc ⟨2, []⟩ O' := by
    refine ⟨[], ?_⟩
    cases row with
    | nil => simp [timesOf, fn_times_of, runFn_eq, B_times_of, hs, raiseS]
    | cons a fg =>
      simp only [List.drop_succ_cons, List.drop_zero] at hd
      have lc := fun x => all_figs fg hd [some (.str (a :: fg)), some (.str fg), x] 2 (by simp) []
      have hal := all_map fg isFig []
      simp only [figs10] at lc
      have z0 : fg.length + 1 ≤ 16777216 := by omega
      have z1 : fg.length ≤ 16777216 := by omega
      unfold timesOf
      simp only [List.drop_succ_cons, List.drop_zero, List.take_succ_cons, List.take_zero]
      by_cases q1 : a = 43
      · subst q1
        by_cases q2 : 1 ≤ fg.length
        · have p2 : (1 : Int) ≤ fg.length := by omega
          by_cases q3 : fg.length ≤ 3
          · have p3 : (fg.length : Int) ≤ 3 := by omega
            cases q4 : fg.all isFig with
            | false =>
              rw [q4] at hal
              rw [if_neg (by simp)]
              simp [fn_times_of, runFn_eq, B_times_of, hs, z0, z1, p2, p3, wipeR, lc, hal, raiseS]
            | true =>
              rw [q4] at hal
              obtain ⟨c, fs, rfl⟩ : ∃ c fs, fg = c :: fs := by
                cases fg with
                | nil => simp at q2
                | cons c fs => exact ⟨c, fs, rfl⟩
              have h0 : ∀ O, ixD (.str (c :: fs)) (.int 0) O = .ok (.str [c]) O := fun O => by
                simp only [ixD]
                rw [hs, if_pos z1]
                simp [L2.ixN]
              have hdig : ∀ x ∈ c :: fs, 48 ≤ x ∧ x ≤ 57 := fun x hx => by
                have := List.all_eq_true.mp q4 x hx
                simpa [isFig] using this
              have hint := int_digits hdig (by simp) (by omega) []
              generalize hfg : c :: fs = fg at *
              have hh : fg.head? = some c := by rw [← hfg]; rfl
              by_cases q5 : c = 48
              · rw [if_neg (by simp [hh, q5])]
                subst q5
                simp [fn_times_of, runFn_eq, B_times_of, hs, z0, z1, p2, p3, wipeR, lc, hal, h0, raiseS]
              · rw [if_pos ⟨rfl, q2, q3, rfl, by rw [hh]; simp [q5]⟩]
                simp [fn_times_of, runFn_eq, B_times_of, hs, z0, z1, p2, p3, wipeR, lc, hal, h0, q5, hint]
          · rw [if_neg (fun h => q3 h.2.2.1)]
            simp [fn_times_of, runFn_eq, B_times_of, hs, z0, z1, p2, show ¬ (fg.length : Int) ≤ 3 by omega, raiseS]
        · rw [if_neg (fun h => q2 h.2.1)]
          simp [fn_times_of, runFn_eq, B_times_of, hs, z0, z1, show ¬ (1 : Int) ≤ fg.length by omega, raiseS]
      · rw [if_neg (fun h => q1 (by simpa using h.1))]
        simp [fn_times_of, runFn_eq, B_times_of, hs, z0, q1, raiseS]
  obtain ⟨O', key⟩ := key
  cases q : timesOf row with
  | some n => rw [q] at key; exact close_ok rfl key rfl
  | none => rw [q] at key; exact close_exc rfl key rfl
/-- one row more -/
def longStep (f : List Tx) (row : Tx) : Except Unit (List Tx) :=
  if row.take 1 = [61] then .ok (f ++ [row.drop 1]) else
  match timesOf row with
  | none => .error ()
  | some n => match f.getLast? with
    | none => .error ()
    | some u => if f.length + n > 1000 then .error () else .ok (f ++ List.replicate n u)
def longP (rows : List Tx) : Option (List Tx) := match rows.foldlM longStep [] with
  | .error _ => none
  | .ok f => if f.length > 1000 ∨ rowsOf f ≠ rows then none else some f
theorem timesOf_lt {row : Tx} {n : Nat} (h : timesOf row = some n) : 1 ≤ n ∧ n ≤ 999 ∧ row = 43 :: TL.numL n := by
  unfold timesOf at h
  split at h
  · rename_i hc
    obtain ⟨h1, h2, h3, h4, h5⟩ := hc
    injection h with h
    cases row with
    | nil => simp at h1
    | cons a r =>
      simp at h1 h2 h3 h4 h5 h
      subst h1
      have hdig : ∀ x ∈ r, 48 ≤ x ∧ x ≤ 57 := fun x hx => by
        have := h4 x hx
        simpa [isFig] using this
      have hne : r ≠ [] := fun e => by rw [e] at h2; simp at h2
      have hnum := num_dv r.length rfl hdig hne (fun e => absurd e h5)
      rw [h] at hnum
      have hlen : (TL.numL n).length ≤ 3 := by rw [hnum]; exact h3
      refine ⟨?_, ?_, by rw [hnum]⟩
      · rcases Nat.eq_zero_or_pos n with h0 | h0
        · subst h0
          rw [TL.numL_lt (by omega)] at hnum
          rw [← hnum] at h5
          simp at h5
        · exact h0
      · by_cases q : n ≤ 999
        · exact q
        · have a1 := TL.numL_step (n := n) (by omega)
          have a2 := TL.numL_step (n := n / 10) (by omega)
          have a3 := TL.numL_step (n := n / 10 / 10) (by omega)
          have a4 : 1 ≤ (TL.numL (n / 10 / 10 / 10)).length := List.length_pos_iff.mpr (numL_ne _)
          rw [a1, a2, a3] at hlen
          simp only [List.length_append, List.length_singleton] at hlen
          omega
  · cases h
theorem timesOf_num {n : Nat} (h1 : 1 ≤ n) (h2 : n ≤ 999) : timesOf (43 :: TL.numL n) = some n := by
  unfold timesOf
  have hl : (TL.numL n).length ≤ 3 := numL_len (by omega) (by omega)
  have hp : 1 ≤ (TL.numL n).length := List.length_pos_iff.mpr (numL_ne _)
  rw [if_pos]
  · simp [dv_num]
  · refine ⟨by simp, by simpa using hp, by simpa using hl, ?_, ?_⟩
    · simp only [List.drop_succ_cons, List.drop_zero, List.all_eq_true]
      intro c hc
      have := digit_lt c hc
      simp [isFig, this]
    · simp only [List.drop_succ_cons, List.drop_zero]
      intro e
      have := numL_head n e
      omega
theorem long_len : ∀ (rows : List Tx) (f g : List Tx), rows.foldlM longStep f = .ok g → g.length ≤ max f.length 1000 + rows.length
  | [], f, g, h => by cases h; simp; omega
  | r :: rows, f, g, h => by
    rw [List.foldlM_cons] at h
    cases q : longStep f r with
    | error x => rw [q] at h; cases h
    | ok f' =>
      rw [q] at h
      have := long_len rows f' g h
      have hf : f'.length ≤ max f.length 1000 + 1 := by
        unfold longStep at q
        split at q
        · cases q; simp; omega
        · split at q
          · cases q
          · split at q
            · cases q
            · split at q
              · cases q
              · cases q; simp; omega
      simp; omega
theorem long_mem {P : Tx → Prop} (hP : ∀ r, P r → P (r.drop 1)) : ∀ (rows : List Tx) (f g : List Tx), (∀ r ∈ rows, P r) → (∀ t ∈ f, P t) → rows.foldlM longStep f = .ok g → ∀ t ∈ g, P t
  | [], f, g, _, hf, h => by cases h; exact hf
  | r :: rows, f, g, hr, hf, h => by
    rw [List.foldlM_cons] at h
    cases q : longStep f r with
    | error x => rw [q] at h; cases h
    | ok f' =>
      rw [q] at h
      refine long_mem hP rows f' g (fun x hx => hr x (by simp [hx])) ?_ h
      unfold longStep at q
      split at q
      · cases q
        intro t ht
        rcases List.mem_append.mp ht with ht | ht
        · exact hf t ht
        · simp at ht; subst ht; simpa using hP r (hr r (by simp))
      · split at q
        · cases q
        · split at q
          · cases q
          · rename_i u hu
            split at q
            · cases q
            · cases q
              intro t ht
              rcases List.mem_append.mp ht with ht | ht
              · exact hf t ht
              · rw [(List.mem_replicate.mp ht).2]; exact hf u (List.mem_of_getLast? hu)
abbrev lenv (rows : List Tx) (f : List Tx) (x2 x3 : Option D) : Rho := [some (.tup (tsD rows)), some (.tup (tsD f)), x2, x3]
theorem long_step (rows f : List Tx) (row : Tx) (hf : f.length ≤ 9000) (hr : row.length ≤ 1000) (x3 : Option D) (O : Sto) :
    match longStep f row with
    | .ok f' => ∃ y3, Q_long_1 (lenv rows f (some (.str row)) x3) O = .nx (lenv rows f' (some (.str row)) y3) O
    | .error _ => ∃ r', Q_long_1 (lenv rows f (some (.str row)) x3) O = .exc ⟨2, []⟩ r' O := by
  have hs : sizeLine = 16777216 := sizeLine_nat
  have ht := times_ok row (by omega) O
  unfold longStep
  have z0 : row.length ≤ 16777216 := by omega
  by_cases q1 : row.take 1 = [61]
  · rw [if_pos q1]
    exact ⟨x3, by simp [Q_long_1, hs, z0, q1, show f.length + 1 ≤ 16777216 by omega]⟩
  · rw [if_neg q1]
    cases q2 : timesOf row with
    | none =>
      rw [q2] at ht
      exact ⟨_, by ((conv => lhs; simp [Q_long_1, hs, z0, q1, ht]); first | done | exact rfl)⟩
    | some n =>
      rw [q2] at ht
      obtain ⟨n1, n2, _⟩ := timesOf_lt q2
      cases q3 : f.getLast? with
      | none =>
        have : f = [] := List.getLast?_eq_none_iff.mp q3
        subst this
        exact ⟨_, by ((conv => lhs; simp [Q_long_1, hs, z0, q1, ht, raiseS]); first | done | exact rfl)⟩
      | some u =>
        have hne : f ≠ [] := fun e => by rw [e] at q3; simp at q3
        have hl : getI (tsD f) (-1) = some (.str u) := by
          rw [getI_last (by simpa using hne)]
          have h1 : f.getLast hne = u := by rw [List.getLast?_eq_some_getLast hne] at q3; injection q3
          simp [List.getLast_map, h1]
        by_cases q4 : f.length + n > 1000
        · simp only [q4, if_true]
          exact ⟨_, by ((conv => lhs; simp [Q_long_1, hs, z0, q1, ht, raiseS, hne, show (1000 : Int) < f.length + n by omega, c_TEXTS_MOST]); first | done | exact rfl)⟩
        · simp only [q4, if_false]
          exact ⟨some (.int n), by simp [Q_long_1, hs, z0, q1, ht, hne, show ¬ (1000 : Int) < f.length + n by omega, c_TEXTS_MOST, hl, mulTD, show (-1000000 : Int) ≤ n by omega, show (n : Int) ≤ 1000 by omega, show f.length + n ≤ 16777216 by omega, List.flatten_replicate_singleton]⟩
theorem long_ok (rows : List Tx) (hn : rows.length ≤ 5000) (hz : ∀ r ∈ rows, r.length ≤ 1000) (hc : ∀ r ∈ rows, ∀ c ∈ r, c < 1114112) (O : Sto) :
    closeFn fn_long [.tup (tsD rows)] O = match longP rows with | some f => .ok (.tup (tsD f)) O | none => .exc ⟨2, []⟩ O := by
  have hs : sizeLine = 16777216 := sizeLine_nat
  have lp := forL_foldM (D.str) (fun (f : List Tx) r O => O = [] ∧ ∃ x2 x3, r = lenv rows f x2 x3) longStep (fun _ s => ∃ r', s = .exc ⟨2, []⟩ r' []) (t := nameG 2) (bd := Q_long_1)
    (fun x s ⟨r', h⟩ => .inr ⟨_, _, _, h⟩) rows [] (r := lenv rows [] none none) (O := []) (by
      rintro pre b post f r O hp hf ⟨rfl, x2, x3, rfl⟩
      have h1 := long_len pre [] f hf
      have hpl : pre.length ≤ rows.length := by rw [hp]; simp
      have h2 := long_step rows f b (by simp at h1; omega) (hz b (by rw [hp]; simp)) x3 []
      refine ⟨lenv rows f (some (.str b)) x3, [], rfl, ?_⟩
      cases q : longStep f b with
      | ok f' =>
        rw [q] at h2
        obtain ⟨y3, h2⟩ := h2
        exact ⟨_, _, .inl h2, rfl, _, _, rfl⟩
      | error x =>
        rw [q] at h2
        exact h2) ⟨rfl, _, _, rfl⟩
  have hno : noObL [D.tup (tsD rows)] = true := by simp only [noObL, noOb, noOb_tsD, Bool.and_true]
  unfold longP
  cases q : rows.foldlM longStep [] with
  | error x =>
    rw [q] at lp
    obtain ⟨r', lp⟩ := lp
    have lp : forL (nameG 2) Q_long_1 [] (tsD rows) [some (.tup (tsD rows)), some (.tup []), none, none] [] = _ := lp
    refine close_exc (O' := []) hno ?_ rfl
    simp [fn_long, runFn_eq, B_long, lp]
  | ok f =>
    rw [q] at lp
    obtain ⟨r', O', lp, rfl, x2, x3, rfl⟩ := lp
    have lp : forL (nameG 2) Q_long_1 [] (tsD rows) [some (.tup (tsD rows)), some (.tup []), none, none] [] = .nx [some (.tup (tsD rows)), some (.tup (tsD f)), x2, x3] [] := lp
    have hfl := long_len rows [] f q
    have hfz := long_mem (P := fun t => t.length ≤ 1000 ∧ ∀ c ∈ t, c < 1114112) (fun r hr => ⟨by simp; omega, fun c hc => hr.2 c (List.mem_of_mem_drop hc)⟩) rows [] f (fun r hr => ⟨hz r hr, hc r hr⟩) (fun _ h => nomatch h) q
    simp only []
    by_cases q1 : f.length > 1000
    · rw [if_pos (.inl q1)]
      refine close_exc (O' := []) hno ?_ rfl
      simp [fn_long, runFn_eq, B_long, lp, show (1000 : Int) < f.length by omega, c_TEXTS_MOST, raiseS]
    · have hsh := short_ok f (by omega) (fun t ht => (hfz t ht).1) []
      have hrc : ∀ r ∈ rowsOf f, ∀ c ∈ r, c < 1114112 := by
        have : ∀ (n : Nat) (g : List Tx), g.length ≤ n → (∀ t ∈ g, ∀ c ∈ t, c < 1114112) → ∀ r ∈ rowsOf g, ∀ c ∈ r, c < 1114112 := by
          intro n
          induction n with
          | zero =>
            intro g hg _ r hr
            have : g = [] := List.eq_nil_of_length_eq_zero (by omega)
            subst this
            simp [rowsOf] at hr
          | succ n ih =>
            intro g hg hc r hr
            cases g with
            | nil => simp [rowsOf] at hr
            | cons t ts =>
              rw [rowsOf] at hr
              rcases List.mem_cons.mp hr with rfl | hr
              · intro c hc'
                rcases List.mem_cons.mp hc' with rfl | hc'
                · omega
                · exact hc t (by simp) c hc'
              · rcases List.mem_append.mp hr with hr | hr
                · unfold plus at hr
                  split at hr
                  · cases hr
                  · simp at hr
                    subst hr
                    intro c hc'
                    rcases List.mem_cons.mp hc' with rfl | hc'
                    · omega
                    · have := digit_lt c hc'; omega
                · exact ih _ (by simp at hg ⊢; omega) (fun u hu => hc u (List.mem_cons_of_mem _ (List.mem_of_mem_drop hu))) r hr
        exact this f.length f (Nat.le_refl _) (fun t ht => (hfz t ht).2)
      have hne := ne_strs hrc hc []
      by_cases q2 : rowsOf f = rows
      · rw [if_neg (by rintro (h | h); exact q1 h; exact h q2)]
        refine close_ok (O' := []) hno ?_ (by simp only [noOb, noOb_tsD])
        rw [q2] at hsh hne
        simp [fn_long, runFn_eq, B_long, lp, show ¬ (1000 : Int) < f.length by omega, c_TEXTS_MOST, hsh, hne]
      · rw [if_pos (.inr q2)]
        refine close_exc (O' := []) hno ?_ rfl
        simp [fn_long, runFn_eq, B_long, lp, show ¬ (1000 : Int) < f.length by omega, c_TEXTS_MOST, hsh, hne, q2, raiseS]
end Dn
set_option linter.all false
set_option maxRecDepth 100000
set_option maxHeartbeats 4000000
namespace Dn
open PySem Lib LibC
/-! ### rows -/
def star (name : Tx) : Tx := if name = [] then [42] else name
def rowT (n m l : Nat) (name words : Tx) : Tx := TL.numL n ++ 32 :: (TL.numL m ++ 32 :: (lw l ++ 32 :: (star name ++ 32 :: words)))
abbrev recD (m l : Nat) (name words : Tx) : D := .tup [.int m, .int l, .str name, .str words]
theorem num12 {n : Nat} (h : n < 1000000000000) : (TL.numL n).length ≤ 12 := numL_len (by omega) (by omega)
theorem row_of_ok (n m l : Nat) (name words : Tx) (hn : n < 1000000000000) (hm : m < 1000000000000) (hl : l < 100) (hname : name.length ≤ 1000) (hw : words.length ≤ 1000) (O : Sto) :
    closeFn fn_row_of [.int n, recD m l name words] O = .ok (.str (rowT n m l name words)) O := by
  have hs : sizeLine = 16777216 := sizeLine_nat
  have h1 := fun O => (lw_ok l hl O).1
  have h2 := (lw_ok l hl []).2.2
  have g1 := num12 hn
  have g2 := num12 hm
  refine close_ok (O' := []) rfl ?_ rfl
  have hst : (star name).length ≤ 1000 := by
    unfold star
    split
    · simp
    · exact hname
  have hB : B_row_of [some (.int n), some (recD m l name words), none, none, none, none, none] [] = .ret (.str (rowT n m l name words)) [] := by
    unfold B_row_of
    refine cs_nx (r1 := [some (.int n), some (recD m l name words), some (.int m), some (.int l), some (.str name), some (.str words), none]) (O1 := []) (by simp [tupG, seqR]) ?_
    refine cs_nx (r1 := [some (.int n), some (recD m l name words), some (.int m), some (.int l), some (.str name), some (.str words), some (.str name)]) (O1 := []) (by simp) ?_
    refine cs_nx (r1 := [some (.int n), some (recD m l name words), some (.int m), some (.int l), some (.str name), some (.str words), some (.str (star name))]) (O1 := []) (by
      by_cases q : name = []
      · subst q; simp [star]
      · simp [star, q]) ?_
    have hj := joinE_ok (r := [some (.int n), some (recD m l name words), some (.int m), some (.int l), some (.str name), some (.str words), some (.str (star name))]) (O := [])
      (jp_cons (fmt_int (f := varE 0) (n := n) rfl hn) (jp_cons (f := constE (.str [32])) (x := [32]) rfl (jp_cons (fmt_int (f := varE 2) (n := m) rfl hm) (jp_cons (f := constE (.str [32])) (x := [32]) rfl
        (jp_cons (fmt_str (f := fnE 1 (closeFn fn_level_word) (consA (varE 3) nilA)) (x := lw l) (by simp [h1]) (by omega)) (jp_cons (f := constE (.str [32])) (x := [32]) rfl (jp_cons (fmt_str (f := varE 6) (x := star name) rfl (by omega))
        (jp_cons (f := constE (.str [32])) (x := [32]) rfl (jp_cons (fmt_str (f := varE 5) (x := words) rfl (by omega)) jp_nil))))))))) (by simp; omega)
    simp only [ev_retS, hj, bindS_ok']
    simp [rowT]
  simp [fn_row_of, runFn_eq, hB]
/-- the row by hand -/
theorem law_row_ok (n m l : Nat) (name words : Tx) (hn : n < 1000000000000) (hm : m < 1000000000000) (hl : l < 100) (hname : name.length ≤ 1000) (hw : words.length ≤ 1000) (O : Sto) :
    closeFn fn__law_row [.int n, recD m l name words] O = .ok (.str (rowT n m l name words)) O := by
  have hs : sizeLine = 16777216 := sizeLine_nat
  have h1 := fun O => (lw_ok l hl O).2.1
  have h2 := (lw_ok l hl []).2.2
  have g1 := num12 hn
  have g2 := num12 hm
  have k1 : n.log2 < 1920 := by simpa using log2_small (i := n) (by omega) (by omega)
  have k2 : m.log2 < 1920 := by simpa using log2_small (i := m) (by omega) (by omega)
  refine close_ok (O' := []) rfl ?_ rfl
  have hst : (star name).length ≤ 1000 := by
    unfold star
    split
    · simp
    · exact hname
  have hj := join_lst [32] [TL.numL n, TL.numL m, lw l, star name, words] [] (by simp; omega)
  simp only [List.map_cons, List.map_nil] at hj
  have hfin : TL.joinL [32] [TL.numL n, TL.numL m, lw l, star name, words] = rowT n m l name words := by simp [TL.joinL, rowT]
  rw [hfin] at hj
  generalize rowT n m l name words = RR at hj ⊢
  by_cases q : name = []
  · subst q
    simp only [star, if_true] at hj
    simp [fn__law_row, runFn_eq, B__law_row, tyStr, strF, k1, k2, numT_nat, h1, hs, hj]
  · simp only [star, if_neg q] at hj
    simp [fn__law_row, runFn_eq, B__law_row, tyStr, strF, k1, k2, numT_nat, h1, hs, hj, q, show name.length ≤ 16777216 by omega]
/-! reading one -/
def figT (t : Tx) : Option Nat := if 1 ≤ t.length ∧ t.length ≤ 9 ∧ t.all isFig = true ∧ ¬ (t.head? = some 48 ∧ 1 < t.length) then some (NumText.digitsVal t) else none
theorem fig_ok (t : Tx) (ht : t.length ≤ 1000000) (O : Sto) : closeFn fn_read_figures [.str t] O = match figT t with | some n => .ok (.int n) O | none => .exc ⟨2, []⟩ O := by
  have hs : sizeLine = 16777216 := sizeLine_nat
  have z1 : t.length ≤ 16777216 := by omega
  have key : fn_read_figures [.str t] [] = match figT t with | some n => .ok (.int n) [] | none => .exc ⟨2, []⟩ [] := by
    have lc := all_figs t ht [some (.str t), none] 1 (by simp) []
    simp only [figs10] at lc
    have hal := all_map t isFig []
    unfold figT
    by_cases q2 : 1 ≤ t.length
    · have p2 : (1 : Int) ≤ t.length := by omega
      by_cases q3 : t.length ≤ 9
      · have p3 : (t.length : Int) ≤ 9 := by omega
        cases q4 : t.all isFig with
        | false =>
          rw [q4] at hal
          rw [if_neg (by simp)]
          simp [fn_read_figures, runFn_eq, B_read_figures, hs, z1, p2, p3, wipeR, lc, hal, raiseS, c_FIGURES_MOST]
        | true =>
          rw [q4] at hal
          obtain ⟨c, fs, rfl⟩ : ∃ c fs, t = c :: fs := by
            cases t with
            | nil => simp at q2
            | cons c fs => exact ⟨c, fs, rfl⟩
          have h0 : ∀ O, ixD (.str (c :: fs)) (.int 0) O = .ok (.str [c]) O := fun O => by
            simp only [ixD]
            rw [hs, if_pos z1]
            simp [L2.ixN]
          have hdig : ∀ x ∈ c :: fs, 48 ≤ x ∧ x ≤ 57 := fun x hx => by
            have := List.all_eq_true.mp q4 x hx
            simpa [isFig] using this
          have hint := int_digits hdig (by simp) (by omega) []
          generalize hfg : c :: fs = fg at *
          have hh : fg.head? = some c := by rw [← hfg]; rfl
          by_cases q5 : c = 48
          · subst q5
            by_cases q6 : 1 < fg.length
            · rw [if_neg (by simp [hh, q6])]
              simp [fn_read_figures, runFn_eq, B_read_figures, hs, z1, p2, p3, wipeR, lc, hal, h0, raiseS, c_FIGURES_MOST, show (1 : Int) < fg.length by omega]
            · rw [if_pos ⟨q2, q3, rfl, fun h => q6 h.2⟩]
              simp [fn_read_figures, runFn_eq, B_read_figures, hs, z1, p2, p3, wipeR, lc, hal, h0, c_FIGURES_MOST, show ¬ (1 : Int) < fg.length by omega, hint]
          · rw [if_pos ⟨q2, q3, rfl, by rw [hh]; simp [q5]⟩]
            simp [fn_read_figures, runFn_eq, B_read_figures, hs, z1, p2, p3, wipeR, lc, hal, h0, q5, hint, c_FIGURES_MOST]
      · rw [if_neg (fun h => q3 h.2.1)]
        simp [fn_read_figures, runFn_eq, B_read_figures, hs, z1, p2, show ¬ (t.length : Int) ≤ 9 by omega, raiseS, c_FIGURES_MOST]
    · rw [if_neg (fun h => q2 h.1)]
      simp [fn_read_figures, runFn_eq, B_read_figures, hs, z1, show ¬ (1 : Int) ≤ t.length by omega, raiseS, c_FIGURES_MOST]
  cases q : figT t with
  | some n => rw [q] at key; exact close_ok rfl key rfl
  | none => rw [q] at key; exact close_exc rfl key rfl
theorem fig_num {n : Nat} (h : n < 1000000000) : figT (TL.numL n) = some n := by
  unfold figT
  have hl : (TL.numL n).length ≤ 9 := numL_len (by omega) (by omega)
  have hp : 1 ≤ (TL.numL n).length := List.length_pos_iff.mpr (numL_ne _)
  rw [if_pos, dv_num]
  refine ⟨hp, hl, ?_, fun z => ?_⟩
  · rw [List.all_eq_true]
    intro c hc
    have := digit_lt c hc
    simp [isFig, this]
  · have := numL_head n z.1
    subst this
    rw [TL.numL_lt (by omega)] at z
    simp at z
theorem par32 {a b : Tx} (h : 32 ∉ a) : parD (a ++ 32 :: b) [32] = [.str a, .str [32], .str b] := by
  unfold parD
  have := TL.par_part1 (s := 32) (S := []) (p := a) (rest := b) (acc := []) h
  simp only [List.singleton_append, List.nil_append] at this
  rw [this]
theorem read_part (text : D) (a b : Tx) (h : 32 ∉ a) (hl : (a ++ 32 :: b).length ≤ 1000000) (parts : List D) (hp : parts.length ≤ 10) (k x4 x5 x6 x7 x8 x9 : Option D) :
    Q_read_row_1 [some text, some (.ob 0), some (.str (a ++ 32 :: b)), k, x4, x5, x6, x7, x8, x9] [.lst parts] = .nx [some text, some (.ob 0), some (.str b), k, some (.str a), some (.str [32]), x6, x7, x8, x9] [.lst (parts ++ [.str a])] := by
  have hs : sizeLine = 16777216 := sizeLine_nat
  have hz : (a ++ 32 :: b).length ≤ 16777216 := by omega
  have hpar := par32 (b := b) h
  generalize a ++ 32 :: b = T at hpar hz ⊢
  unfold Q_read_row_1
  refine cs_nx (r1 := [some text, some (.ob 0), some (.str b), k, some (.str a), some (.str [32]), x6, x7, x8, x9]) (O1 := [.lst parts]) (by simp [tyStr, partition1F, hs, hz, hpar, tupG, seqR]) ?_
  refine cs_nx (r1 := [some text, some (.ob 0), some (.str b), k, some (.str a), some (.str [32]), x6, x7, x8, x9]) (O1 := [.lst parts]) (by simp) ?_
  simp [tyLst, listR, listS, appendF, hs, show parts.length < 16777216 by omega]
theorem read_row_ok (n m l : Nat) (name words : Tx) (hn1 : 1 ≤ n) (hn : n < 1000000000) (hm : m < 1000000000) (hl : l < 100) (hname : Nm name) (hw : words.length ≤ 80) (O : Sto) :
    closeFn fn_read_row [.str (rowT n m l name words)] O = .ok (.tup [.int n, recD m l name words]) O := by
  have hs : sizeLine = 16777216 := sizeLine_nat
  have h2 := (lw_ok l hl []).2.2
  have g1 := num12 (show n < 1000000000000 by omega)
  have g2 := num12 (show m < 1000000000000 by omega)
  have hnl := hname.len
  have hst : (star name).length ≤ 60 := by
    unfold star
    split
    · simp
    · exact hnl
  have d1 : 32 ∉ TL.numL n := fun z => by have := digit_lt 32 z; omega
  have d2 : 32 ∉ TL.numL m := fun z => by have := digit_lt 32 z; omega
  have d3 : 32 ∉ lw l := fun z => by have := lw_chars l (List.mem_range.mpr hl) 32 z; omega
  have d4 : 32 ∉ star name := fun z => by
    unfold star at z
    split at z
    · simp at z
    · rcases hname.chars 32 z with h | h
      · have := SG_lt 32 h; omega
      · omega
  have f1 := fun O => fig_ok (TL.numL n) (by omega) O
  have f2 := fun O => fig_ok (TL.numL m) (by omega) O
  rw [fig_num hn] at f1
  rw [fig_num hm] at f2
  have hrd := fun O => rd_lw hl O
  have hnm := fun O => hname.is O
  have hw80 : ¬ (80 : Int) < words.length := by omega
  refine close_ok (O' := [.lst [.str (TL.numL n), .str (TL.numL m), .str (lw l), .str (star name)]]) rfl ?_ rfl
  have hr4 : rangeD 0 4 = [.int 0, .int 1, .int 2, .int 3] := rfl
  have hf4 : fits 4 = true := by decide
  generalize hT : D.str (rowT n m l name words) = T
  have p1 := read_part T (TL.numL n) (TL.numL m ++ 32 :: (lw l ++ 32 :: (star name ++ 32 :: words))) d1 (by simp; omega) [] (by simp) (some (.int 0)) none none none none none none
  have p2 := read_part T (TL.numL m) (lw l ++ 32 :: (star name ++ 32 :: words)) d2 (by simp; omega) [.str (TL.numL n)] (by simp) (some (.int 1)) (some (.str (TL.numL n))) (some (.str [32])) none none none none
  have p3 := read_part T (lw l) (star name ++ 32 :: words) d3 (by simp; omega) [.str (TL.numL n), .str (TL.numL m)] (by simp) (some (.int 2)) (some (.str (TL.numL m))) (some (.str [32])) none none none none
  have p4 := read_part T (star name) words d4 (by simp; omega) [.str (TL.numL n), .str (TL.numL m), .str (lw l)] (by simp) (some (.int 3)) (some (.str (lw l))) (some (.str [32])) none none none none
  have loop : forL (nameG 3) Q_read_row_1 [] [.int 0, .int 1, .int 2, .int 3] [some T, some (.ob 0), some (.str (rowT n m l name words)), none, none, none, none, none, none, none] [.lst []] =
      .nx [some T, some (.ob 0), some (.str words), some (.int 3), some (.str (star name)), some (.str [32]), none, none, none, none] [.lst [.str (TL.numL n), .str (TL.numL m), .str (lw l), .str (star name)]] := by
    unfold rowT
    simp only [List.nil_append, List.cons_append, List.singleton_append] at p1 p2 p3 p4
    generalize TL.numL n = N at *
    generalize TL.numL m = M at *
    generalize lw l = L at *
    generalize star name = S at *
    simp only [forL, still_nil, if_true, ev_nameG, List.set, p1, p2, p3, p4]
  have hB : B_read_row [some T, none, none, none, none, none, none, none, none, none] [] = .ret (.tup [.int n, recD m l name words]) [.lst [.str (TL.numL n), .str (TL.numL m), .str (lw l), .str (star name)]] := by
    unfold B_read_row
    refine cs_nx (r1 := [some T, some (.ob 0), none, none, none, none, none, none, none, none]) (O1 := [.lst []]) (by simp) ?_
    refine cs_nx (r1 := [some T, some (.ob 0), some (.str (rowT n m l name words)), none, none, none, none, none, none, none]) (O1 := [.lst []]) (by subst hT; simp) ?_
    refine cs_nx (r1 := [some T, some (.ob 0), some (.str words), some (.int 3), some (.str (star name)), some (.str [32]), none, none, none, none]) (O1 := [.lst [.str (TL.numL n), .str (TL.numL m), .str (lw l), .str (star name)]]) (by simp only [ev_forS, ev_callI, ev_consA, ev_const, ev_nilA, bind_ok', range1_int, hf4, if_true, hr4, bindS_ok', loop]) ?_
    have hix : ∀ (i : Int) (d : D), getI [D.str (TL.numL n), .str (TL.numL m), .str (lw l), .str (star name)] i = some d → ∀ x0 x2 x3 x4 x5 x6 x7 x8 x9 : Option D, op2 ixD (varE 1) (constE (.int i)) [x0, some (.ob 0), x2, x3, x4, x5, x6, x7, x8, x9] [.lst [.str (TL.numL n), .str (TL.numL m), .str (lw l), .str (star name)]] = .ok d [.lst [.str (TL.numL n), .str (TL.numL m), .str (lw l), .str (star name)]] := by
      intro i d hg x0 x2 x3 x4 x5 x6 x7 x8 x9
      simp only [ev_op2, ev_var', List.getElem?_cons_succ, List.getElem?_cons_zero, bind_ok', ev_const]
      rw [ix_obL (x := [D.str (TL.numL n), .str (TL.numL m), .str (lw l), .str (star name)]) rfl, hg]
    have i0 := hix 0 (.str (TL.numL n)) (by simp)
    have i1 := hix 1 (.str (TL.numL m)) (by simp)
    have i2 := hix 2 (.str (lw l)) (by simp)
    have i3 := hix 3 (.str (star name)) (by simp)
    clear hix
    generalize hO : ([.lst [.str (TL.numL n), .str (TL.numL m), .str (lw l), .str (star name)]] : Sto) = O1 at i0 i1 i2 i3 ⊢
    refine cs_nx (r1 := [some T, some (.ob 0), some (.str words), some (.int 3), some (.str (star name)), some (.str [32]), some (.int n), none, none, none]) (O1 := O1) (by
      simp only [ev_setS, ev_fnE, ev_consA, ev_nilA, i0, bind_ok', List.length_cons, List.length_nil, Nat.zero_add, if_true, f1, bindS_ok', List.set]) ?_
    refine cs_nx (r1 := [some T, some (.ob 0), some (.str words), some (.int 3), some (.str (star name)), some (.str [32]), some (.int n), some (.int m), none, none]) (O1 := O1) (by
      simp only [ev_setS, ev_fnE, ev_consA, ev_nilA, i1, bind_ok', List.length_cons, List.length_nil, Nat.zero_add, if_true, f2, bindS_ok', List.set]) ?_
    refine cs_nx (r1 := [some T, some (.ob 0), some (.str words), some (.int 3), some (.str (star name)), some (.str [32]), some (.int n), some (.int m), some (.int l), none]) (O1 := O1) (by
      simp only [tryS, ev_setS, ev_fnE, ev_consA, ev_nilA, i2, bind_ok', List.length_cons, List.length_nil, Nat.zero_add, if_true, hrd, bindS_ok', List.set]) ?_
    refine cs_nx (r1 := [some T, some (.ob 0), some (.str words), some (.int 3), some (.str (star name)), some (.str [32]), some (.int n), some (.int m), some (.int l), some (.str (star name))]) (O1 := O1) (by
      simp only [ev_setS, i3, bindS_ok', List.set]) ?_
    refine cs_nx (r1 := [some T, some (.ob 0), some (.str words), some (.int 3), some (.str (star name)), some (.str [32]), some (.int n), some (.int m), some (.int l), some (.str name)]) (O1 := O1) (by
      by_cases q : name = []
      · subst q; simp [star]
      · have hq : name ≠ [42] := fun z => by
          have := hname.chars 42 (by rw [z]; simp)
          rcases this with h | h
          · have := SG_lt 42 h; omega
          · omega
        simp [star, q, hq, hnm]) ?_
    refine cs_nx (r1 := [some T, some (.ob 0), some (.str words), some (.int 3), some (.str (star name)), some (.str [32]), some (.int n), some (.int m), some (.int l), some (.str name)]) (O1 := O1) (by
      simp [show ¬ n = 0 by omega, hs, show words.length ≤ 16777216 by omega, c_WORDS_MOST, hw80, show ¬ 80 < words.length by omega]) ?_
    simp [hs]
  simp [fn_read_row, runFn_eq, hB]
end Dn
set_option linter.all false
set_option maxRecDepth 100000
set_option maxHeartbeats 4000000
namespace Dn
open PySem Lib LibC
/-! ### what the laws draw: records -/
structure Rc (m l : Nat) (name words : Tx) : Prop where
  m : m < 1000000000
  l : l < 100
  name : Nm name
  w : words.length ≤ 80
  c : ∀ ch ∈ words, ch ∈ sg94
theorem mix_ok (c p m : Int) (hp : 0 < p) (hm : 0 < m) (O : Sto) : closeFn fn__law_mix [.int c, .int p, .int m] O = .ok (.int (c * 48271 % p % m)) O := by
  have hmul : mulOk c 48271 = true := by
    unfold mulOk
    rw [decide_eq_true (show (-18446744073709551616 : Int) < 48271 by omega), decide_eq_true (show (48271 : Int) < 18446744073709551616 by omega)]
    simp
  exact close_ok (O' := []) rfl (by simp [fn__law_mix, runFn_eq, B__law_mix, hmul, hp, hm]) rfl
theorem record_ok (c : Int) (O : Sto) : ∃ (m l : Nat) (name words : Tx), Rc m l name words ∧ closeFn fn__law_record [.int c] O = .ok (recD m l name words) O := by
  have hs : sizeLine = 16777216 := sizeLine_nat
  obtain ⟨name, hn, en⟩ := law_name_ok (c / 7) []
  obtain ⟨words, ew, wl, wc⟩ := words_ok (c / 5) 80 (by omega) (by omega) []
  have l1 : ∀ O, closeFn fn__law_d [.int c, .int 1, .int 3] O = .ok (.int (lawD c 1 3)) O := fun O => law_d_c c 1 3 O (by omega)
  have l2 : ∀ O, closeFn fn__law_d [.int c, .int 3, .int 6] O = .ok (.int (lawD c 3 6)) O := fun O => law_d_c c 3 6 O (by omega)
  have l3 : ∀ O, closeFn fn__law_d [.int c, .int 1, .int 2] O = .ok (.int (lawD c 1 2)) O := fun O => law_d_c c 1 2 O (by omega)
  have r2 := lawD_range c 3 6 (by omega)
  have hmix := fun O => mix_ok c 9973 100 (by omega) (by omega) O
  generalize lawD c 1 3 = d1 at l1
  generalize lawD c 3 6 = d2 at l2 r2
  generalize lawD c 1 2 = d3 at l3
  -- the moment
  have hm : ∃ m : Nat, m < 1000000000 ∧ ∀ x2 : Option D, ifS (cmpT eqD (fnE 3 (closeFn fn__law_d) (consA (varE 0) (consA (constE (.int 1)) (consA (constE (.int 3)) nilA)))) (constE (.int 0)))
      (setS 1 (op2 ixD (lstE false (consA (constE (.int 0)) (consA (constE (.int 86399)) (consA (constE (.int 86400)) (consA (constE (.int 999999999)) (consA (constE (.int 86401)) (consA (constE (.int 172800)) nilA))))))) (fnE 3 (closeFn fn__law_d) (consA (varE 0) (consA (constE (.int 3)) (consA (constE (.int 6)) nilA))))))
      nilS [some (.int c), some (.int (c / 3 % 1000000000)), x2] [] = .nx [some (.int c), some (.int m), x2] [] := by
    by_cases q : d1 = 0
    · obtain ⟨d, mm, e⟩ := getI_some (ds := [.int 0, .int 86399, .int 86400, .int 999999999, .int 86401, .int 172800]) r2.1 r2.2
      have hd : ∃ m : Nat, m < 1000000000 ∧ d = .int m := by
        simp only [List.mem_cons, List.not_mem_nil, or_false] at mm
        rcases mm with rfl | rfl | rfl | rfl | rfl | rfl
        · exact ⟨0, by omega, rfl⟩
        · exact ⟨86399, by omega, rfl⟩
        · exact ⟨86400, by omega, rfl⟩
        · exact ⟨999999999, by omega, rfl⟩
        · exact ⟨86401, by omega, rfl⟩
        · exact ⟨172800, by omega, rfl⟩
      obtain ⟨m, hm, rfl⟩ := hd
      exact ⟨m, hm, fun x2 => by simp [l1, l2, q, hs, e]⟩
    · refine ⟨(c / 3 % 1000000000).toNat, by omega, fun x2 => ?_⟩
      have : (((c / 3 % 1000000000).toNat : Nat) : Int) = c / 3 % 1000000000 := by omega
      rw [this]
      generalize c / 3 % 1000000000 = mm
      simp [l1, q]
  obtain ⟨m, hm, em⟩ := hm
  have hl : ∃ l : Nat, l < 100 ∧ ifS (cmpT eqD (fnE 3 (closeFn fn__law_d) (consA (varE 0) (consA (constE (.int 1)) (consA (constE (.int 2)) nilA)))) (constE (.int 0)))
      (setS 2 (op2 (mulD false) (constE (.int 10)) (op2 modD (varE 2) (constE (.int 6))))) nilS [some (.int c), some (.int m), some (.int (c * 48271 % 9973 % 100))] [] = .nx [some (.int c), some (.int m), some (.int l)] [] := by
    generalize hv : c * 48271 % 9973 % 100 = v
    have hv0 : 0 ≤ v ∧ v < 100 := by omega
    by_cases q : d3 = 0
    · refine ⟨(10 * (v % 6)).toNat, by omega, ?_⟩
      have : (((10 * (v % 6)).toNat : Nat) : Int) = 10 * (v % 6) := by omega
      rw [this]
      have hmul : mulOk 10 (v % 6) = true := by unfold mulOk; rfl
      simp [l3, q, hmul]
    · refine ⟨v.toNat, by omega, ?_⟩
      have : ((v.toNat : Nat) : Int) = v := by omega
      rw [this]
      simp [l3, q]
  obtain ⟨l, hl, el⟩ := hl
  refine ⟨m, l, name, words, ⟨hm, hl, hn, by omega, wc⟩, close_ok (O' := []) rfl ?_ rfl⟩
  have hB : B__law_record [some (.int c), none, none] [] = .ret (recD m l name words) [] := by
    unfold B__law_record
    refine cs_nx (r1 := [some (.int c), some (.int (c / 3 % 1000000000)), none]) (O1 := []) (by simp) ?_
    refine cs_nx (em none) ?_
    refine cs_nx (r1 := [some (.int c), some (.int m), some (.int (c * 48271 % 9973 % 100))]) (O1 := []) (by simp [hmix]) ?_
    refine cs_nx el ?_
    simp [en, ew, hs]
  simp [fn__law_record, runFn_eq, hB]
end Dn
set_option linter.all false
set_option maxRecDepth 100000
set_option maxHeartbeats 4000000
namespace Dn
open PySem Lib LibC
/-! ### gates -/
inductive Gate where
  | yes | no | lvl (n : Int) | und (x : Tx) | has (x : Tx) | neg (g : Gate) | con (g h : Gate) | dis (g h : Gate)
def gateD : Gate → D
  | .yes => .tup [.str [121, 101, 115]]
  | .no => .tup [.str [110, 111]]
  | .lvl n => .tup [.str [108, 101, 118, 101, 108], .int n]
  | .und x => .tup [.str [117, 110, 100, 101, 114], .str x]
  | .has x => .tup [.str [104, 97, 115], .str x]
  | .neg g => .tup [.str [110, 111, 116], gateD g]
  | .con g h => .tup [.str [97, 110, 100], gateD g, gateD h]
  | .dis g h => .tup [.str [111, 114], gateD g, gateD h]
def gdep : Gate → Nat
  | .neg g => gdep g + 1
  | .con g h => max (gdep g) (gdep h) + 1
  | .dis g h => max (gdep g) (gdep h) + 1
  | _ => 0
/-- its texts are not long -/
def gok : Gate → Bool
  | .und x => decide (x.length ≤ 1000)
  | .has x => decide (x.length ≤ 1000)
  | .neg g => gok g
  | .con g h => gok g && gok h
  | .dis g h => gok g && gok h
  | _ => true
def hasB (x w : Tx) : Bool := hasSub x w && decide (x.length ≤ w.length)
def gev (l : Int) (name words : Tx) : Gate → Bool
  | .yes => true
  | .no => false
  | .lvl n => decide (n ≤ l)
  | .und x => under name x
  | .has x => hasB x words
  | .neg g => !gev l name words g
  | .con g h => gev l name words g && gev l name words h
  | .dis g h => gev l name words g || gev l name words h
def rD (m l : Int) (name words : Tx) : D := .tup [.int m, .int l, .str name, .str words]
theorem noOb_gate : ∀ g : Gate, noOb (gateD g) = true
  | .yes => rfl | .no => rfl | .lvl _ => rfl | .und _ => rfl | .has _ => rfl
  | .neg g => by simp [gateD, noOb, noObL, noOb_gate g]
  | .con g h => by simp [gateD, noOb, noObL, noOb_gate g, noOb_gate h]
  | .dis g h => by simp [gateD, noOb, noObL, noOb_gate g, noOb_gate h]
theorem in_strs (a : Tx) (xs : List Tx) (O : Sto) : inB false (.str a) (.tup (xs.map D.str)) O = .ok (.bl (xs.any fun y => y == a)) O := by
  have h : ∀ xs : List Tx, (xs.map D.str).all flatD = true := fun xs => by
    rw [List.all_eq_true]; intro d hd; obtain ⟨x, _, rfl⟩ := List.mem_map.mp hd; rfl
  simp only [inB, dicOf, seqR, h xs, flatD, Bool.and_true, if_true, List.any_map]
  congr 2
  simp [Function.comp_def, eqv_str]
theorem in_yesno (a : Tx) (O : Sto) : inB false (.str a) (.tup [.str [121, 101, 115], .str [110, 111]]) O = .ok (.bl ([121, 101, 115] == a || [110, 111] == a)) O := by
  have := in_strs a [[121, 101, 115], [110, 111]] O
  simpa using this
theorem in_andor (a : Tx) (O : Sto) : inB false (.str a) (.tup [.str [97, 110, 100], .str [111, 114]]) O = .ok (.bl ([97, 110, 100] == a || [111, 114] == a)) O := by
  have := in_strs a [[97, 110, 100], [111, 114]] O
  simpa using this
theorem passes_ok (m l : Int) (name words : Tx) (hn : name.length ≤ 1000) (hw : words.length ≤ 100000) : ∀ (n : Nat) (g : Gate), gdep g < n → gok g = true → ∀ O, closeFn (fn_passes n) [gateD g, rD m l name words] O = .ok (.bl (gev l name words g)) O
  | 0, g, h, _, O => absurd h (Nat.not_lt_zero _)
  | n + 1, g, h, hk, O => by
    have hs : sizeLine = 16777216 := sizeLine_nat
    refine close_ok (O' := []) (by simp [noObL, noOb_gate, rD, noOb]) ?_ rfl
    cases g with
    | yes => simp [fn_passes, runFn_eq, B_passes, gateD, in_yesno, hs, gev]
    | no => simp [fn_passes, runFn_eq, B_passes, gateD, in_yesno, hs, gev]
    | lvl k => simp [fn_passes, runFn_eq, B_passes, gateD, in_yesno, hs, gev, rD]
    | und x =>
      have hx : x.length ≤ 1000 := by simpa [gok] using hk
      have e := fun O => under_ok name x hn hx O
      simp [fn_passes, runFn_eq, B_passes, gateD, in_yesno, hs, gev, rD, e]
    | has x => simp [fn_passes, runFn_eq, B_passes, gateD, in_yesno, hs, gev, rD, hasB]
    | neg g =>
      have e := fun O => passes_ok m l name words hn hw n g (by simp only [gdep] at h; omega) (by simpa [gok] using hk) O
      unfold rD at e
      simp [fn_passes, runFn_eq, B_passes, gateD, in_yesno, hs, gev, rD, e]
    | con g k =>
      simp only [gok, Bool.and_eq_true] at hk
      have e1 := fun O => passes_ok m l name words hn hw n g (by simp only [gdep] at h; omega) hk.1 O
      have e2 := fun O => passes_ok m l name words hn hw n k (by simp only [gdep] at h; omega) hk.2 O
      unfold rD at e1 e2
      cases q : gev l name words g with
      | true => rw [q] at e1; simp [fn_passes, runFn_eq, B_passes, gateD, in_yesno, hs, gev, rD, e1, e2, q]
      | false => rw [q] at e1; simp [fn_passes, runFn_eq, B_passes, gateD, in_yesno, hs, gev, rD, e1, e2, q]
    | dis g k =>
      simp only [gok, Bool.and_eq_true] at hk
      have e1 := fun O => passes_ok m l name words hn hw n g (by simp only [gdep] at h; omega) hk.1 O
      have e2 := fun O => passes_ok m l name words hn hw n k (by simp only [gdep] at h; omega) hk.2 O
      unfold rD at e1 e2
      cases q : gev l name words g with
      | true => rw [q] at e1; simp [fn_passes, runFn_eq, B_passes, gateD, in_yesno, hs, gev, rD, e1, e2, q]
      | false => rw [q] at e1; simp [fn_passes, runFn_eq, B_passes, gateD, in_yesno, hs, gev, rD, e1, e2, q]
/-- the law's own road -/
theorem find_has (x w : Tx) : decide (0 ≤ asI (findL w x)) = hasB x w := by
  unfold findL hasB hasSub
  rw [Bool.eq_iff_iff]
  simp only [decide_eq_true_eq, Bool.and_eq_true, List.any_eq_true, List.mem_range, beq_iff_eq]
  constructor
  · intro h
    cases q : (List.range (w.length + 1)).find? fun i => decide (i + x.length ≤ w.length) && ((w.drop i).take x.length == x) with
    | none => rw [q] at h; simp [asI] at h
    | some i =>
      have := List.find?_some q
      simp only [Bool.and_eq_true, decide_eq_true_eq, beq_iff_eq] at this
      exact ⟨⟨i, by omega, this.2⟩, by omega⟩
  · rintro ⟨⟨i, h1, h2⟩, h3⟩
    cases q : (List.range (w.length + 1)).find? fun i => decide (i + x.length ≤ w.length) && ((w.drop i).take x.length == x) with
    | none =>
      rw [List.find?_eq_none] at q
      have := q i (List.mem_range.mpr (by omega))
      simp only [Bool.and_eq_true, decide_eq_true_eq, beq_iff_eq, not_and] at this
      exact absurd h2 (this (by omega))
    | some i => simp [asI]
theorem take_cons_ne (x w : Tx) : (decide ((x ++ [46]).length ≤ (w ++ [46]).length) && ((w ++ [46]).take (x ++ [46]).length == x ++ [46])) = ((x == w) || (decide ((x ++ [46]).length ≤ w.length) && (w.take (x ++ [46]).length == x ++ [46]))) := by
  rw [Bool.eq_iff_iff]
  simp only [Bool.and_eq_true, Bool.or_eq_true, decide_eq_true_eq, beq_iff_eq, List.length_append, List.length_singleton]
  constructor
  · rintro ⟨h1, h2⟩
    by_cases q : x.length = w.length
    · left
      rw [List.take_of_length_le (by simp; omega)] at h2
      exact (List.append_cancel_right h2).symm
    · right
      refine ⟨by omega, ?_⟩
      rw [List.take_append_of_le_length (by omega)] at h2
      exact h2
  · rintro (h | ⟨h1, h2⟩)
    · subst h
      exact ⟨by omega, by rw [List.take_of_length_le (by simp)]⟩
    · exact ⟨by omega, by rw [List.take_append_of_le_length (by omega)]; exact h2⟩
theorem under_law (name x : Tx) : under name x = ((x == []) || (decide ((x ++ [46]).length ≤ (name ++ [46]).length) && ((name ++ [46]).take (x ++ [46]).length == x ++ [46]))) := by
  rw [take_cons_ne]
  unfold under
  rw [Bool.or_assoc]
theorem both_eq (a b : Bool) (O : Sto) : eqD (.lst [.bl a, .bl b]) (.lst [.bl true, .bl true]) O = .ok (.bl (a && b)) O := by
  cases a <;> cases b <;> rfl
theorem in_both (a b : Bool) (O : Sto) : inB false (.bl true) (.lst [.bl a, .bl b]) O = .ok (.bl (a || b)) O := by
  cases a <;> cases b <;> rfl
theorem lpasses_ok (m l : Int) (name words : Tx) (hn : name.length ≤ 1000) (hw : words.length ≤ 100000) : ∀ (n : Nat) (g : Gate), gdep g < n → gok g = true → ∀ O, closeFn (fn__law_passes n) [gateD g, rD m l name words] O = .ok (.bl (gev l name words g)) O
  | 0, g, h, _, O => absurd h (Nat.not_lt_zero _)
  | n + 1, g, h, hk, O => by
    have hs : sizeLine = 16777216 := sizeLine_nat
    refine close_ok (O' := []) (by simp [noObL, noOb_gate, rD, noOb]) ?_ rfl
    cases g with
    | yes => simp [fn__law_passes, runFn_eq, B__law_passes, gateD, in_andor, hs, gev]
    | no => simp [fn__law_passes, runFn_eq, B__law_passes, gateD, in_andor, hs, gev]
    | lvl k =>
      have e : (!decide (l < k)) = decide (k ≤ l) := by
        by_cases q : l < k
        · simp [q]
        · simp [q]; omega
      simp [fn__law_passes, runFn_eq, B__law_passes, gateD, in_andor, hs, gev, rD, e]
    | und x =>
      have hx : x.length ≤ 1000 := by simpa [gok] using hk
      have e := under_law name x
      unfold gev
      rw [e]
      cases q : x == [] with
      | true => simp [fn__law_passes, runFn_eq, B__law_passes, gateD, in_andor, hs, rD, q]
      | false => simp [fn__law_passes, runFn_eq, B__law_passes, gateD, in_andor, hs, rD, q, tyStr, startswithF, show name.length + 1 ≤ 16777216 by omega, show x.length + 1 ≤ 16777216 by omega]
    | has x =>
      have e := find_has x words
      unfold gev
      rw [← e]
      simp [fn__law_passes, runFn_eq, B__law_passes, gateD, in_andor, hs, rD, tyStr, find1F]
    | neg g =>
      have e := fun O => lpasses_ok m l name words hn hw n g (by simp only [gdep] at h; omega) (by simpa [gok] using hk) O
      unfold rD at e
      simp [fn__law_passes, runFn_eq, B__law_passes, gateD, in_andor, hs, gev, rD, e]
    | con g k =>
      simp only [gok, Bool.and_eq_true] at hk
      have e1 := fun O => lpasses_ok m l name words hn hw n g (by simp only [gdep] at h; omega) hk.1 O
      have e2 := fun O => lpasses_ok m l name words hn hw n k (by simp only [gdep] at h; omega) hk.2 O
      unfold rD at e1 e2
      simp only [gev]
      generalize gev l name words g = a at e1
      generalize gev l name words k = b at e2
      have h3 : (a && b) = (a && b || false) := by simp
      cases q : (a && b) with
      | true => simp [fn__law_passes, runFn_eq, B__law_passes, gateD, in_andor, hs, rD, lcL, wipeR, e1, e2, both_eq, q]
      | false => simp [fn__law_passes, runFn_eq, B__law_passes, gateD, in_andor, hs, rD, lcL, wipeR, e1, e2, both_eq, q]
    | dis g k =>
      simp only [gok, Bool.and_eq_true] at hk
      have e1 := fun O => lpasses_ok m l name words hn hw n g (by simp only [gdep] at h; omega) hk.1 O
      have e2 := fun O => lpasses_ok m l name words hn hw n k (by simp only [gdep] at h; omega) hk.2 O
      unfold rD at e1 e2
      simp only [gev]
      generalize gev l name words g = a at e1
      generalize gev l name words k = b at e2
      have h3 : (a || b) = (a && b || (a || b)) := by cases a <;> cases b <;> rfl
      cases q : (a && b) with
      | true =>
        have : (a || b) = true := by cases a <;> cases b <;> simp_all
        simp [fn__law_passes, runFn_eq, B__law_passes, gateD, in_andor, hs, rD, lcL, wipeR, e1, e2, both_eq, q, this]
      | false => simp [fn__law_passes, runFn_eq, B__law_passes, gateD, in_andor, hs, rD, lcL, wipeR, e1, e2, both_eq, in_both, q]
end Dn
set_option linter.all false
set_option maxRecDepth 100000
set_option maxHeartbeats 4000000
namespace Dn
open PySem Lib LibC
/-! ### forms -/
inductive Part where
  | txt (x : Tx) | fld (w k : Tx) (n : Nat)
def partD : Part → D
  | .txt x => .tup [.str [116, 101, 120, 116], .str x]
  | .fld w k n => .tup [.str [102, 105, 101, 108, 100], .str w, .str k, .int n]
def FW : List Tx := [[109, 111, 109, 101, 110, 116], [108, 101, 118, 101, 108], [110, 97, 109, 101], [119, 111, 114, 100, 115]]
def MK : List Tx := [[60], [62], [61]]
def fieldT (w k : Tx) (n : Nat) : Tx := w ++ (if k = [] then [] else k ++ TL.numL n)
def esc : Tx → Tx
  | [] => []
  | c :: r => if c = 123 ∨ c = 125 then c :: c :: esc r else c :: esc r
def ptx : Part → Tx
  | .txt x => esc x
  | .fld w k n => 123 :: (fieldT w k n ++ [125])
def formT : List Part → Tx
  | [] => []
  | p :: ps => ptx p ++ formT ps
def pok : Part → Prop
  | .txt x => x ≠ [] ∧ x.length ≤ 100
  | .fld w k n => w ∈ FW ∧ ((k = [] ∧ n = 0) ∨ (k ∈ MK ∧ 1 ≤ n ∧ n ≤ 40))
theorem esc_len : ∀ x : Tx, (esc x).length ≤ 2 * x.length
  | [] => by simp [esc]
  | c :: r => by
    have := esc_len r
    unfold esc
    split <;> simp <;> omega
theorem esc_app : ∀ x y : Tx, esc (x ++ y) = esc x ++ esc y
  | [], _ => rfl
  | c :: r, y => by
    simp only [List.cons_append, esc, esc_app r y]
    split <;> rfl
theorem dbl_esc : ∀ x : Tx, StrLaws.dbl 125 (StrLaws.dbl 123 x) = esc x
  | [] => rfl
  | c :: r => by
    by_cases h1 : c = 123
    · subst h1; simp [StrLaws.dbl, esc, dbl_esc r]
    · by_cases h2 : c = 125
      · subst h2; simp [StrLaws.dbl, esc, dbl_esc r]
      · simp [StrLaws.dbl, esc, dbl_esc r, h1, h2]
theorem replL_dbl (x : Tx) (c : Nat) : replL x [c] [c, c] = StrLaws.dbl c x := by
  have h := StrLaws.replace_double (mkS x) c
  exact h
theorem numL_le {n : Nat} (h : n ≤ 40) : (TL.numL n).length ≤ 2 := by
  have := numL_len (n := n) (k := 2) (by omega) (by omega)
  omega
theorem fw_len {w : Tx} (h : w ∈ FW) : w.length ≤ 6 := by
  simp only [FW, List.mem_cons, List.not_mem_nil, or_false] at h
  rcases h with rfl | rfl | rfl | rfl <;> simp
theorem mk_len {k : Tx} (h : k ∈ MK) : k.length = 1 := by
  simp only [MK, List.mem_cons, List.not_mem_nil, or_false] at h
  rcases h with rfl | rfl | rfl <;> rfl
theorem ptx_len {p : Part} (h : pok p) : (ptx p).length ≤ 200 := by
  cases p with
  | txt x => have := esc_len x; have := h.2; simp only [ptx]; omega
  | fld w k n =>
    have h1 := fw_len h.1
    rcases h.2 with ⟨rfl, rfl⟩ | ⟨h2, h3, h4⟩
    · simp [ptx, fieldT]; omega
    · have := mk_len h2
      have := numL_le h4
      have hk : k ≠ [] := by intro z; subst z; simp at this
      simp [ptx, fieldT, hk]; omega
theorem formT_len : ∀ (ps : List Part), (∀ p ∈ ps, pok p) → (formT ps).length ≤ 200 * ps.length
  | [], _ => by simp [formT]
  | p :: ps, h => by
    have h1 := ptx_len (h p (by simp))
    have h2 := formT_len ps fun q hq => h q (by simp [hq])
    simp only [formT, List.length_append, List.length_cons]; omega
theorem formT_app : ∀ (ps qs : List Part), formT (ps ++ qs) = formT ps ++ formT qs
  | [], _ => rfl
  | p :: ps, qs => by simp only [List.cons_append, formT, formT_app ps qs, List.append_assoc]
theorem noOb_part (p : Part) : noOb (partD p) = true := by cases p <;> rfl
theorem noOb_parts : ∀ ps : List Part, noObL (ps.map partD) = true
  | [] => rfl
  | p :: ps => by simp only [List.map_cons, noObL, noOb_part, Bool.true_and]; exact noOb_parts ps
theorem str_nat {n : Nat} (h : n ≤ 40) (O : Sto) : strF [.int n] O = .ok (.str (TL.numL n)) O := by
  have hl : (n : Int).natAbs.log2 < 1920 := log2_small (by omega) (by omega)
  simp only [strF]
  rw [if_pos hl, numT_nat]
theorem in_brace (c : Nat) (O : Sto) : inB false (.str [c]) (.str [123, 125]) O = .ok (.bl (decide (c = 123 ∨ c = 125))) O := by
  simp only [op_inS]
  congr 2
  simp only [hasSub, List.length_cons, List.length_nil, List.range_succ_eq_map, List.any_cons, List.any_map, List.drop_succ_cons, List.drop_zero, List.take_succ_cons, List.take_zero]
  rw [Bool.eq_iff_iff]
  simp [List.range_succ_eq_map]
  constructor
  · rintro (h | h) <;> simp [h]
  · rintro (h | h) <;> simp [h]
theorem addS {m : Bool} {x y : Tx} {O : Sto} (h : x.length + y.length ≤ 16777216) : addD m (.str x) (.str y) O = .ok (.str (x ++ y)) O := by
  rw [op_addS, if_pos (by rw [sizeLine_nat]; exact h)]
theorem fl_add (acc w : Tx) (h : acc.length ≤ 100000) (hw : w.length ≤ 6) : (∀ O, addD false (.str acc) (.str [123]) O = .ok (.str (acc ++ [123])) O) ∧
    (∀ O, addD false (.str (acc ++ [123])) (.str w) O = .ok (.str (acc ++ 123 :: w)) O) ∧ (∀ O, addD false (.str (acc ++ 123 :: w)) (.str [125]) O = .ok (.str (acc ++ 123 :: (w ++ [125]))) O) := by
  refine ⟨fun O => addS (by simp; omega), fun O => ?_, fun O => ?_⟩
  · rw [addS (by simp; omega)]; simp
  · rw [addS (by simp; omega)]; simp
theorem fl_add2 (acc w k m : Tx) (h : acc.length ≤ 100000) (hw : w.length ≤ 6) (hk : k.length = 1) (hm : m.length ≤ 2) : (∀ O, addD false (.str (acc ++ 123 :: w)) (.str k) O = .ok (.str (acc ++ 123 :: (w ++ k))) O) ∧
    (∀ O, addD false (.str (acc ++ 123 :: (w ++ k))) (.str m) O = .ok (.str (acc ++ 123 :: (w ++ (k ++ m)))) O) ∧ (∀ O, addD false (.str (acc ++ 123 :: (w ++ (k ++ m)))) (.str [125]) O = .ok (.str (acc ++ 123 :: (w ++ (k ++ (m ++ [125]))))) O) := by
  refine ⟨fun O => ?_, fun O => ?_, fun O => ?_⟩
  · rw [addS (by simp; omega)]; simp
  · rw [addS (by simp; omega)]; simp
  · rw [addS (by simp; omega)]; simp
/-- the law's own writing -/
theorem lf_sign (ps : D) (acc : Tx) (x2 : Option D) (c : Nat) (hl : acc.length ≤ 1000000) :
    Q__law_form_text_1 [some ps, some (.str acc), x2, some (.str [c])] [] = .nx [some ps, some (.str (acc ++ esc [c])), x2, some (.str [c])] [] := by
  have hs : sizeLine = 16777216 := sizeLine_nat
  by_cases q : c = 123 ∨ c = 125
  · have e := in_brace c []
    rw [show decide (c = 123 ∨ c = 125) = true from by simp [q]] at e
    have he : esc [c] = [c, c] := by simp [esc, q]
    simp only [he]
    simp [Q__law_form_text_1, hs, show acc.length + 1 ≤ 16777216 by omega, show acc.length + 1 + 1 ≤ 16777216 by omega, cmpT, e]
  · have e := in_brace c []
    rw [show decide (c = 123 ∨ c = 125) = false from by simp [q]] at e
    have he : esc [c] = [c] := by simp [esc, q]
    simp only [he]
    simp [Q__law_form_text_1, hs, show acc.length + 1 ≤ 16777216 by omega, cmpT, e]
theorem lf_signs (ps : D) (x2 : Option D) : ∀ (x acc : Tx) (x3 : Option D), acc.length + 2 * x.length ≤ 1000000 →
    ∃ y3, forL (nameG 3) Q__law_form_text_1 [] (x.map fun c => D.str [c]) [some ps, some (.str acc), x2, x3] [] = .nx [some ps, some (.str (acc ++ esc x)), x2, y3] []
  | [], acc, x3, _ => ⟨x3, by simp [forL, esc]⟩
  | c :: x, acc, x3, h => by
    simp only [List.length_cons] at h
    have hl := esc_len [c]
    obtain ⟨y3, e⟩ := lf_signs ps x2 x (acc ++ esc [c]) (some (.str [c])) (by simp only [List.length_append]; simp only [List.length_singleton] at hl; omega)
    refine ⟨y3, ?_⟩
    rw [List.map_cons]
    unfold forL
    simp only [still_nil, if_true, ev_nameG, List.set, lf_sign ps acc x2 c (by omega)]
    rw [e, List.append_assoc, ← esc_app]; rfl
theorem fw_txt {w : Tx} (h : w ∈ FW) : True := trivial
theorem lf_part (ps : D) (acc : Tx) (x3 : Option D) (p : Part) (hp : pok p) (hl : acc.length ≤ 100000) : ∃ y3,
    Q__law_form_text_2 [some ps, some (.str acc), some (partD p), x3] [] = .nx [some ps, some (.str (acc ++ ptx p)), some (partD p), y3] [] := by
  have hs : sizeLine = 16777216 := sizeLine_nat
  cases p with
  | txt x =>
    have hx := hp.2
    obtain ⟨y3, e⟩ := lf_signs ps (some (partD (.txt x))) x acc x3 (by omega)
    refine ⟨y3, ?_⟩
    unfold Q__law_form_text_2
    refine if_t (O1 := []) (by simp [partD]) ?_
    simp only [partD] at e ⊢
    simp [e, ptx]
  | fld w k n =>
    have h1 := fw_len hp.1
    refine ⟨x3, ?_⟩
    rcases hp.2 with ⟨rfl, rfl⟩ | ⟨h2, h3, h4⟩
    · obtain ⟨a1, a2, a3⟩ := fl_add acc w (by omega) h1
      simp [-op_addS, a1, a2, a3, Q__law_form_text_2, partD, ptx, fieldT]
    · have hk := mk_len h2
      have hn := numL_le h4
      have en := str_nat h4 []
      have hk0 : k ≠ [] := by intro z; subst z; simp at hk
      have hk1 : (k == []) = false := by simpa using hk0
      obtain ⟨a1, a2, _⟩ := fl_add acc w (by omega) h1
      obtain ⟨a4, a5, a6⟩ := fl_add2 acc w k (TL.numL n) (by omega) h1 hk hn
      simp [-op_addS, a1, a2, a4, a5, a6, Q__law_form_text_2, partD, ptx, fieldT, en, hk0]
theorem pf_part (ps : D) (acc : Tx) (p : Part) (hp : pok p) (hl : acc.length ≤ 100000) :
    Q_form_text_1 [some ps, some (.str acc), some (partD p)] [] = .nx [some ps, some (.str (acc ++ ptx p)), some (partD p)] [] := by
  have hs : sizeLine = 16777216 := sizeLine_nat
  cases p with
  | txt x =>
    have hx := hp.2
    have e1 : replL (replL x [123] [123, 123]) [125] [125, 125] = esc x := by rw [replL_dbl, replL_dbl, dbl_esc]
    have l1 := replL_len x [123] [123, 123]
    simp only [List.length_cons, List.length_nil] at l1
    have l2 := esc_len x
    have z1 : x.length + (x.length + 1) * 2 ≤ 16777216 := by omega
    have z2 : (replL x [123] [123, 123]).length + ((replL x [123] [123, 123]).length + 1) * 2 ≤ 16777216 := by omega
    generalize hr : replL x [123] [123, 123] = r at e1 z2
    simp only [ptx]
    rw [← e1]
    rw [← e1] at l2
    have z3 : acc.length + (replL r [125] [125, 125]).length ≤ 16777216 := by omega
    unfold Q_form_text_1
    refine if_t (O1 := []) (by simp [partD]) ?_
    have a1 : ∀ O, addD false (.str acc) (.str (replL r [125] [125, 125])) O = .ok (.str (acc ++ replL r [125] [125, 125])) O := fun O => addS z3
    have e2 : replE [125] [125, 125] (replE [123] [123, 123] (op2 ixD (varE 2) (constE (.int 1)))) [some ps, some (.str acc), some (partD (.txt x))] [] = .ok (.str (replL r [125] [125, 125])) [] := by
      unfold replE
      simp only [ev_op2, partD, ev_var', List.getElem?_cons_succ, List.getElem?_cons_zero, bind_ok', ev_const, ix_tupI, getI_1, List.length_cons, List.length_nil]
      rw [if_pos (by omega)]
      simp only [bind_ok', hr, List.length_cons, List.length_nil]
      rw [if_pos (by omega)]
    rw [ev_setS, ev_op2]
    have e3 : varE 1 [some ps, some (.str acc), some (partD (.txt x))] [] = .ok (.str acc) [] := by simp
    rw [e3, bind_ok', e2, bind_ok', a1]
    rfl
  | fld w k n =>
    have h1 := fw_len hp.1
    rcases hp.2 with ⟨rfl, rfl⟩ | ⟨h2, h3, h4⟩
    · obtain ⟨a1, a2, a3⟩ := fl_add acc w (by omega) h1
      simp [-op_addS, a1, a2, a3, Q_form_text_1, partD, ptx, fieldT]
    · have hk := mk_len h2
      have hn := numL_le h4
      have en := str_nat h4 []
      have hk0 : k ≠ [] := by intro z; subst z; simp at hk
      obtain ⟨a1, a2, _⟩ := fl_add acc w (by omega) h1
      obtain ⟨a4, a5, a6⟩ := fl_add2 acc w k (TL.numL n) (by omega) h1 hk hn
      simp [-op_addS, a1, a2, a4, a5, a6, Q_form_text_1, partD, ptx, fieldT, en, hk0]
theorem parts_loop {α : Type} {bd : DS0} {n : Nat} (mk : Tx → α → Rho) (hb : ∀ acc x2 p, pok p → acc.length ≤ 100000 → ∃ r', nameG 2 (partD p) (mk acc x2) [] = some (r', []) ∧ ∃ y2, bd r' [] = .nx (mk (acc ++ ptx p) y2) []) : ∀ (ps : List Part) (acc : Tx) (x2 : α), (∀ p ∈ ps, pok p) → acc.length + 200 * ps.length ≤ 100000 →
    ∃ y2, forL (nameG 2) bd [] (ps.map partD) (mk acc x2) [] = .nx (mk (acc ++ formT ps) y2) []
  | [], acc, x2, _, _ => ⟨x2, by simp [forL, formT]⟩
  | p :: ps, acc, x2, h, hl => by
    simp only [List.length_cons] at hl
    obtain ⟨r', e1, y2, e2⟩ := hb acc x2 p (h p (by simp)) (by omega)
    have hp := ptx_len (h p (by simp))
    obtain ⟨z2, e3⟩ := parts_loop (n := n) mk hb ps (acc ++ ptx p) y2 (fun q hq => h q (by simp [hq])) (by simp only [List.length_append]; omega)
    refine ⟨z2, ?_⟩
    rw [List.map_cons]
    unfold forL
    rw [if_pos still_nil, e1]
    simp only [e2]
    rw [e3, List.append_assoc]; rfl
theorem lform_ok (ps : List Part) (h : ∀ p ∈ ps, pok p) (hl : ps.length ≤ 100) (O : Sto) : closeFn fn__law_form_text [.tup (ps.map partD)] O = .ok (.str (formT ps)) O := by
  obtain ⟨⟨y2, y3⟩, e⟩ := parts_loop (n := 0) (bd := Q__law_form_text_2) (fun acc (x : Option D × Option D) => [some (.tup (ps.map partD)), some (.str acc), x.1, x.2]) (fun acc x p hp ha => by
    obtain ⟨y3, e⟩ := lf_part (.tup (ps.map partD)) acc x.2 p hp ha
    exact ⟨[some (.tup (ps.map partD)), some (.str acc), some (partD p), x.2], rfl, (some (partD p), y3), e⟩) ps [] (none, none) h (by simp; omega)
  refine close_ok (O' := []) (by simp only [noObL, noOb, noOb_parts, Bool.and_true]) ?_ rfl
  have hB : B__law_form_text [some (.tup (ps.map partD)), none, none, none] [] = .ret (.str (formT ps)) [] := by
    unfold B__law_form_text
    refine cs_nx (r1 := [some (.tup (ps.map partD)), some (.str []), none, none]) (O1 := []) (by simp) ?_
    refine cs_nx (r1 := [some (.tup (ps.map partD)), some (.str (formT ps)), y2, y3]) (O1 := []) ?_ (by simp)
    simp only [List.nil_append] at e
    simp [e]
  simp [fn__law_form_text, runFn_eq, hB]
theorem form_ok (ps : List Part) (h : ∀ p ∈ ps, pok p) (hl : ps.length ≤ 100) (O : Sto) : closeFn fn_form_text [.tup (ps.map partD)] O = .ok (.str (formT ps)) O := by
  obtain ⟨y2, e⟩ := parts_loop (n := 0) (bd := Q_form_text_1) (fun acc (x : Option D) => [some (.tup (ps.map partD)), some (.str acc), x]) (fun acc x p hp ha => by
    exact ⟨[some (.tup (ps.map partD)), some (.str acc), some (partD p)], rfl, some (partD p), pf_part (.tup (ps.map partD)) acc p hp ha⟩) ps [] none h (by simp; omega)
  refine close_ok (O' := []) (by simp only [noObL, noOb, noOb_parts, Bool.and_true]) ?_ rfl
  have hB : B_form_text [some (.tup (ps.map partD)), none, none] [] = .ret (.str (formT ps)) [] := by
    unfold B_form_text
    refine cs_nx (r1 := [some (.tup (ps.map partD)), some (.str []), none]) (O1 := []) (by simp) ?_
    refine cs_nx (r1 := [some (.tup (ps.map partD)), some (.str (formT ps)), y2]) (O1 := []) ?_ (by simp)
    simp only [List.nil_append] at e
    simp [e]
  simp [fn_form_text, runFn_eq, hB]
/-! ### reading a field -/
theorem par_no {a : Tx} {c : Nat} (h : c ∉ a) : parD a [c] = [.str a, .str [], .str []] := by
  unfold parD; rw [TL.par_none1 h]
theorem par_yes {a b : Tx} {c : Nat} (h : c ∉ a) : parD (a ++ c :: b) [c] = [.str a, .str [c], .str b] := by
  unfold parD
  have := TL.par_part1 (s := c) (S := []) (p := a) (rest := b) (acc := []) h
  simp only [List.singleton_append, List.nil_append] at this
  rw [this]
theorem rf_skip {a : Tx} {c : Nat} (h : c ∉ a) (hl : a.length ≤ 1000) (x2 x3 x4 x5 x6 : Option D) :
    Q_read_field_1 [some (.str a), some (.str [c]), x2, x3, x4, x5, x6] [] = .nx [some (.str a), some (.str [c]), some (.str a), some (.str []), some (.str []), x5, x6] [] := by
  have hs : sizeLine = 16777216 := sizeLine_nat
  have hp : partition1F (.str a) [.str [c]] [] = .ok (.tup [.str a, .str [], .str []]) [] := by
    simp only [partition1F]
    rw [if_pos (by rw [hs]; simp; omega), par_no h]
  unfold Q_read_field_1
  refine cs_nx (r1 := [some (.str a), some (.str [c]), some (.str a), some (.str []), some (.str []), x5, x6]) (O1 := []) ?_ ?_
  · simp [tyStr, hp]
  · simp
theorem numL_inj {a b : Nat} (h : TL.numL a = TL.numL b) : a = b := by rw [← dv_num a, ← dv_num b, h]
theorem pick_wide {n : Nat} (h1 : 1 ≤ n) (h2 : n ≤ 40) : (List.range 40).filter (fun k => TL.numL (1 + k) == TL.numL n) = [n - 1] := by
  have e : (fun k => TL.numL (1 + k) == TL.numL n) = fun k => k == n - 1 := by
    funext k
    rw [Bool.eq_iff_iff, beq_iff_eq, beq_iff_eq]
    constructor
    · intro h; have := numL_inj h; omega
    · intro h; congr 1; omega
  rw [e]
  have : ∀ m < 40, (List.range 40).filter (fun k => k == m) = [m] := by decide
  exact this (n - 1) (by omega)
theorem rf_hit {w : Tx} {c n : Nat} (hw : w ∈ FW) (h : c ∉ w) (h1 : 1 ≤ n) (h2 : n ≤ 40) (x2 x3 x4 x5 x6 : Option D) :
    Q_read_field_1 [some (.str (w ++ c :: TL.numL n)), some (.str [c]), x2, x3, x4, x5, x6] [] = .ret (partD (.fld w [c] n)) [] := by
  have hs : sizeLine = 16777216 := sizeLine_nat
  have hwl := fw_len hw
  have hnl := numL_le h2
  have hp : partition1F (.str (w ++ c :: TL.numL n)) [.str [c]] [] = .ok (.tup [.str w, .str [c], .str (TL.numL n)]) [] := by
    simp only [partition1F]
    rw [if_pos (by rw [hs]; simp; omega), par_yes h]
  have hin : inB false (.str w) c_FIELDS [] = .ok (.bl true) [] := by
    have := in_strs w FW []
    rw [show (FW.any fun y => y == w) = true from List.any_eq_true.mpr ⟨w, hw, by simp⟩] at this
    exact this
  have lc := lcL_filter (t := nameG 6) (c := cmpT eqD (callE strF (consA (varE 6) nilA)) (varE 4)) (el := varE 6) (st := []) (r := [some (.str (w ++ c :: TL.numL n)), some (.str [c]), some (.str w), some (.str [c]), some (.str (TL.numL n)), x5, none]) (O := [])
    (fun k : Nat => D.int (1 + (k : Int))) (fun k => D.int (1 + (k : Int))) (fun k => TL.numL (1 + k) == TL.numL n) rfl (List.range 40) []
    (fun k hk => by
      have hk' := List.mem_range.mp hk
      have e := str_nat (n := 1 + k) (by omega) []
      have ec : ((1 + k : Nat) : Int) = 1 + (k : Int) := by omega
      rw [ec] at e
      exact ⟨_, rfl, by simp [e], by simp⟩) (by rw [hs]; simp)
  rw [pick_wide h1 h2] at lc
  have hit : rangeD 1 41 = (List.range 40).map (fun k : Nat => D.int (1 + (k : Int))) := rfl
  rw [← hit] at lc
  simp only [List.nil_append, List.map_cons, List.map_nil] at lc
  rw [show (1 + ((n - 1 : Nat) : Int)) = (n : Int) from by omega] at lc
  unfold Q_read_field_1
  refine cs_nx (r1 := [some (.str (w ++ c :: TL.numL n)), some (.str [c]), some (.str w), some (.str [c]), some (.str (TL.numL n)), x5, x6]) (O1 := []) ?_ ?_
  · simp [tyStr, hp]
  refine if_t (O1 := []) (by simp [hin]) ?_
  refine cs_nx (r1 := [some (.str (w ++ c :: TL.numL n)), some (.str [c]), some (.str w), some (.str [c]), some (.str (TL.numL n)), some (.lst [.int n]), x6]) (O1 := []) ?_ ?_
  · have f1 : fits 1 = true := by simp [fits]
    have f2 : fits 41 = true := by simp [fits]
    have hr : (callI range2F (consA (constE (.int 1)) (consA (op2 (addD false) (constE c_WIDE_MOST) (constE (.int 1))) nilA))) [some (.str (w ++ c :: TL.numL n)), some (.str [c]), some (.str w), some (.str [c]), some (.str (TL.numL n)), x5, x6] [] = .ok ⟨rangeD 1 41, []⟩ [] := by
      simp [c_WIDE_MOST, f1, f2]
    have hwp : wipeR [some (.str (w ++ c :: TL.numL n)), some (.str [c]), some (.str w), some (.str [c]), some (.str (TL.numL n)), x5, x6] [6] = [some (.str (w ++ c :: TL.numL n)), some (.str [c]), some (.str w), some (.str [c]), some (.str (TL.numL n)), x5, none] := by simp [wipeR]
    generalize rangeD 1 41 = RG at lc hr
    rw [ev_setS, ev_lcE, hr, bind_ok', hwp, lc, bind_ok', ev_mkF, bindS_ok']
    rfl
  · simp [hs, partD]
theorem fw_chars {w : Tx} (h : w ∈ FW) : ∀ c ∈ w, 97 ≤ c ∧ c ≤ 122 := by
  simp only [FW, List.mem_cons, List.not_mem_nil, or_false] at h
  rcases h with rfl | rfl | rfl | rfl <;> decide
theorem read_field_ok {w k : Tx} {n : Nat} (h : pok (.fld w k n)) (O : Sto) : closeFn fn_read_field [.str (fieldT w k n)] O = .ok (partD (.fld w k n)) O := by
  have hw := h.1
  have hwl := fw_len hw
  have hwc := fw_chars hw
  have n60 : 60 ∉ w := fun z => by have := hwc 60 z; omega
  have n62 : 62 ∉ w := fun z => by have := hwc 62 z; omega
  have n61 : 61 ∉ w := fun z => by have := hwc 61 z; omega
  refine close_ok (O' := []) rfl ?_ (noOb_part _)
  have items : (c_MARKS : D) = .str [60, 62, 61] := rfl
  rcases h.2 with ⟨rfl, rfl⟩ | ⟨h2, h3, h4⟩
  · have e1 : fieldT w [] 0 = w := by simp [fieldT]
    rw [e1]
    have hin : inB false (.str w) c_FIELDS [] = .ok (.bl true) [] := by
      have := in_strs w FW []
      rw [show (FW.any fun y => y == w) = true from List.any_eq_true.mpr ⟨w, hw, by simp⟩] at this
      exact this
    have lp : forL (nameG 1) Q_read_field_1 [] [.str [60], .str [62], .str [61]] [some (.str w), none, none, none, none, none, none] [] = .nx [some (.str w), some (.str [61]), some (.str w), some (.str []), some (.str []), none, none] [] := by
      simp only [forL, still_nil, if_true, ev_nameG, List.set, rf_skip n60 (by omega), rf_skip n62 (by omega), rf_skip n61 (by omega)]
    have hB : B_read_field [some (.str w), none, none, none, none, none, none] [] = .ret (partD (.fld w [] 0)) [] := by
      unfold B_read_field
      refine cs_nx (r1 := [some (.str w), some (.str [61]), some (.str w), some (.str []), some (.str []), none, none]) (O1 := []) ?_ ?_
      · simp [items, lp]
      · simp [hin, partD, sizeLine_nat]
    simp [fn_read_field, runFn_eq, hB]
  · have hk := mk_len h2
    have hnd := @digit_lt n
    have hnl := numL_le h4
    obtain ⟨c, rfl⟩ : ∃ c, k = [c] := List.length_eq_one_iff.mp hk
    have e1 : fieldT w [c] n = w ++ c :: TL.numL n := by simp [fieldT]
    rw [e1]
    have m60 : c ≠ 60 → 60 ∉ w ++ c :: TL.numL n := fun hc z => by
      rcases List.mem_append.mp z with z | z
      · exact n60 z
      · rcases List.mem_cons.mp z with z | z
        · exact hc z.symm
        · have := hnd 60 z; omega
    have m62 : c ≠ 62 → 62 ∉ w ++ c :: TL.numL n := fun hc z => by
      rcases List.mem_append.mp z with z | z
      · exact n62 z
      · rcases List.mem_cons.mp z with z | z
        · exact hc z.symm
        · have := hnd 62 z; omega
    have hl : (w ++ c :: TL.numL n).length ≤ 1000 := by simp; omega
    have lp : forL (nameG 1) Q_read_field_1 [] [.str [60], .str [62], .str [61]] [some (.str (w ++ c :: TL.numL n)), none, none, none, none, none, none] [] = .ret (partD (.fld w [c] n)) [] := by
      simp only [MK, List.mem_cons, List.not_mem_nil, or_false, List.cons.injEq, and_true] at h2
      rcases h2 with rfl | rfl | rfl
      · simp only [forL, still_nil, if_true, ev_nameG, List.set, rf_hit hw n60 h3 h4]
      · simp only [forL, still_nil, if_true, ev_nameG, List.set, rf_skip (m60 (by omega)) hl, rf_hit hw n62 h3 h4]
      · simp only [forL, still_nil, if_true, ev_nameG, List.set, rf_skip (m60 (by omega)) hl, rf_skip (m62 (by omega)) hl, rf_hit hw n61 h3 h4]
    have hB : B_read_field [some (.str (w ++ c :: TL.numL n)), none, none, none, none, none, none] [] = .ret (partD (.fld w [c] n)) [] := by
      unfold B_read_field
      refine cs_ret ?_
      simp [items, lp, sizeLine_nat, show w.length ≤ 16777215 by omega]
    simp [fn_read_field, runFn_eq, hB]
end Dn
set_option linter.all false
set_option maxRecDepth 100000
set_option maxHeartbeats 4000000
namespace Dn
open PySem Lib LibC
/-! ### rows read from any text -/
def cutA : Tx → Option (Tx × Tx)
  | [] => none
  | c :: r => if c = 32 then some ([], r) else (cutA r).map fun p => (c :: p.1, p.2)
theorem cutA_some : ∀ {t a b : Tx}, cutA t = some (a, b) → t = a ++ 32 :: b ∧ 32 ∉ a
  | [], a, b, h => by cases h
  | c :: r, a, b, h => by
    unfold cutA at h
    split at h
    · rename_i e
      cases h
      subst e
      exact ⟨rfl, by simp⟩
    · rename_i e
      cases z : cutA r with
      | none => rw [z] at h; cases h
      | some p =>
        rw [z] at h
        cases h
        obtain ⟨h1, h2⟩ := cutA_some (a := p.1) (b := p.2) z
        exact ⟨by rw [h1]; rfl, by simp [h2]; exact fun q => e q.symm⟩
theorem cutA_none : ∀ {t : Tx}, cutA t = none → 32 ∉ t
  | [], h => by simp
  | c :: r, h => by
    unfold cutA at h
    split at h
    · cases h
    · rename_i e
      have := cutA_none (t := r) (by simpa using h)
      simp [this]
      exact fun q => e q.symm
theorem cutA_app : ∀ {a b : Tx}, 32 ∉ a → cutA (a ++ 32 :: b) = some (a, b)
  | [], b, _ => by simp [cutA]
  | c :: a, b, h => by
    have h1 : c ≠ 32 := fun z => h (by simp [z])
    have h2 := cutA_app (a := a) (b := b) (fun z => h (by simp [z]))
    simp [cutA, h1, h2]
theorem cutA_no {t : Tx} (h : 32 ∉ t) : cutA t = none := by
  cases z : cutA t with
  | none => rfl
  | some p =>
    obtain ⟨h1, _⟩ := cutA_some (a := p.1) (b := p.2) z
    exact absurd (by rw [h1]; simp) h
/-- the number, the moment, the level and the name of a row's parts -/
def rrP (a b c d w : Tx) : Option (Nat × Nat × Nat × Tx) :=
  match figT a with
  | none => none
  | some n => match figT b with
    | none => none
    | some m => match fst c 0 100 with
      | none => none
      | some l => if d ≠ [42] ∧ (d = [] ∨ isNm d = false) then none else if n = 0 ∨ 80 < w.length then none else some (n, m, l, if d = [42] then [] else d)
def RB (tr : DS0) : DS0 :=
  (consS (setS 1 (lstE true nilA))
    (consS (setS 2 (varE 0))
    (consS (forS (callI range1F (consA (constE (.int 4)) nilA)) (nameG 3)
    Q_read_row_1)
    (consS (setS 6 (fnE 1 (closeFn fn_read_figures) (consA (op2 ixD (varE 1) (constE (.int 0))) nilA)))
    (consS (setS 7 (fnE 1 (closeFn fn_read_figures) (consA (op2 ixD (varE 1) (constE (.int 1))) nilA)))
    (consS tr
    (consS (setS 9 (op2 ixD (varE 1) (constE (.int 3))))
    (consS (ifS (cmpT eqD (varE 9) (constE (.str [42])))
    (setS 9 (constE (.str [])))
    (ifS (orT (cmpT eqD (varE 9) (constE (.str []))) (notT (truT (fnE 1 (closeFn fn_is_name) (consA (varE 9) nilA)))))
    (raiseS 2)
    nilS))
    (consS (ifS (orT (cmpT eqD (varE 6) (constE (.int 0))) (cmpT gtD (callE lenF (consA (varE 2) nilA)) (constE c_WORDS_MOST)))
    (raiseS 2)
    nilS)
    (retS (tupE (consA (varE 6) (consA (tupE (consA (varE 7) (consA (varE 8) (consA (varE 9) (consA (varE 2) nilA))))) nilA)))))))))))))
theorem RB_row : B_read_row = RB (tryS 1 (setS 8 (fnE 1 (closeFn fn_read_level) (consA (op2 ixD (varE 1) (constE (.int 2))) nilA))) badS) := rfl
/-- a text without a gap -/
theorem read_gapless (text : D) (a : Tx) (h : 32 ∉ a) (hl : a.length ≤ 1000000) (O : Sto) (x1 k x4 x5 x6 x7 x8 x9 : Option D) :
    ∃ r', Q_read_row_1 [some text, x1, some (.str a), k, x4, x5, x6, x7, x8, x9] O = .exc ⟨2, []⟩ r' O := by
  have hs : sizeLine = 16777216 := sizeLine_nat
  have hz : a.length ≤ 16777216 := by omega
  have hpar := par_no h
  refine ⟨[some text, x1, some (.str []), k, some (.str a), some (.str []), x6, x7, x8, x9], ?_⟩
  unfold Q_read_row_1
  refine cs_nx (r1 := [some text, x1, some (.str []), k, some (.str a), some (.str []), x6, x7, x8, x9]) (O1 := O) (by simp [tyStr, partition1F, hs, hz, hpar, tupG, seqR]) ?_
  refine cs_exc ?_
  exact if_t (O1 := O) (by simp) (by simp [raiseS])
abbrev P4 (a b c d : Tx) : Sto := [.lst [.str a, .str b, .str c, .str d]]
/-- the level, or the refusal, of the statement that reads it -/
structure LvOk (tr : DS0) (c : Tx) : Prop where
  ok : ∀ (l : Nat) (a b d : Tx) (x0 x2 x3 x4 x5 x6 x7 : Option D), fst c 0 100 = some l → tr [x0, some (.ob 0), x2, x3, x4, x5, x6, x7, none, none] (P4 a b c d) = .nx [x0, some (.ob 0), x2, x3, x4, x5, x6, x7, some (.int l), none] (P4 a b c d)
  no : ∀ (a b d : Tx) (x0 x2 x3 x4 x5 x6 x7 : Option D), fst c 0 100 = none → ∃ r', tr [x0, some (.ob 0), x2, x3, x4, x5, x6, x7, none, none] (P4 a b c d) = .exc ⟨2, []⟩ r' (P4 a b c d)
theorem ix4 {a b c d : Tx} {i : Int} {e : D} (hg : getI [D.str a, .str b, .str c, .str d] i = some e) (x0 x2 x3 x4 x5 x6 x7 x8 x9 : Option D) : op2 ixD (varE 1) (constE (.int i)) [x0, some (.ob 0), x2, x3, x4, x5, x6, x7, x8, x9] (P4 a b c d) = .ok e (P4 a b c d) := by
  simp only [ev_op2, ev_var', List.getElem?_cons_succ, List.getElem?_cons_zero, bind_ok', ev_const]
  rw [ix_obL (x := [D.str a, .str b, .str c, .str d]) rfl, hg]
theorem rr_parts {tr : DS0} {a b c d w : Tx} (ha : 32 ∉ a) (hb : 32 ∉ b) (hc : 32 ∉ c) (hd : 32 ∉ d) (hl : (a ++ 32 :: (b ++ 32 :: (c ++ 32 :: (d ++ 32 :: w)))).length ≤ 1000) (ht : LvOk tr c) :
    runFn 10 (RB tr) [.str (a ++ 32 :: (b ++ 32 :: (c ++ 32 :: (d ++ 32 :: w))))] [] = match rrP a b c d w with | some (n, m, l, nm) => .ok (.tup [.int n, recD m l nm w]) (P4 a b c d) | none => .exc ⟨2, []⟩ (P4 a b c d) := by
  have hs : sizeLine = 16777216 := sizeLine_nat
  have hl' := hl
  simp only [List.length_append, List.length_cons] at hl'
  have f1 := fun O => fig_ok a (by omega) O
  have f2 := fun O => fig_ok b (by omega) O
  have hnm := fun O => isNm_ok d (by omega) O
  have hr4 : rangeD 0 4 = [.int 0, .int 1, .int 2, .int 3] := rfl
  have hf4 : fits 4 = true := by decide
  generalize hT : D.str (a ++ 32 :: (b ++ 32 :: (c ++ 32 :: (d ++ 32 :: w)))) = T
  have p1 := read_part T a (b ++ 32 :: (c ++ 32 :: (d ++ 32 :: w))) ha (by simp; omega) [] (by simp) (some (.int 0)) none none none none none none
  have p2 := read_part T b (c ++ 32 :: (d ++ 32 :: w)) hb (by simp; omega) [.str a] (by simp) (some (.int 1)) (some (.str a)) (some (.str [32])) none none none none
  have p3 := read_part T c (d ++ 32 :: w) hc (by simp; omega) [.str a, .str b] (by simp) (some (.int 2)) (some (.str b)) (some (.str [32])) none none none none
  have p4 := read_part T d w hd (by simp; omega) [.str a, .str b, .str c] (by simp) (some (.int 3)) (some (.str c)) (some (.str [32])) none none none none
  have loop : forL (nameG 3) Q_read_row_1 [] [.int 0, .int 1, .int 2, .int 3] [some T, some (.ob 0), some (.str (a ++ 32 :: (b ++ 32 :: (c ++ 32 :: (d ++ 32 :: w))))), none, none, none, none, none, none, none] [.lst []] =
      .nx [some T, some (.ob 0), some (.str w), some (.int 3), some (.str d), some (.str [32]), none, none, none, none] (P4 a b c d) := by
    simp only [List.nil_append, List.cons_append, List.singleton_append] at p1 p2 p3 p4
    simp only [forL, still_nil, if_true, ev_nameG, List.set, p1, p2, p3, p4]
  clear p1 p2 p3 p4
  have i0 := ix4 (a := a) (b := b) (c := c) (d := d) (i := 0) (e := .str a) (by simp)
  have i1 := ix4 (a := a) (b := b) (c := c) (d := d) (i := 1) (e := .str b) (by simp)
  have i3 := ix4 (a := a) (b := b) (c := c) (d := d) (i := 3) (e := .str d) (by simp)
  have tok := fun l => ht.ok l a b d
  have tno := ht.no a b d
  generalize hO : P4 a b c d = O1 at *
  suffices hB : (∃ r', match rrP a b c d w with | some (n, m, l, nm) => RB tr [some T, none, none, none, none, none, none, none, none, none] [] = .ret (.tup [.int n, recD m l nm w]) O1 | none => RB tr [some T, none, none, none, none, none, none, none, none, none] [] = .exc ⟨2, []⟩ r' O1) by
    obtain ⟨r', hB⟩ := hB
    cases z : rrP a b c d w with
    | none => rw [z] at hB; simp [runFn_eq, hB]
    | some q => obtain ⟨n, m, l, nm⟩ := q; rw [z] at hB; simp [runFn_eq, hB]
  have pre : ∀ x : SR, consS (setS 6 (fnE 1 (closeFn fn_read_figures) (consA (op2 ixD (varE 1) (constE (.int 0))) nilA))) (consS (setS 7 (fnE 1 (closeFn fn_read_figures) (consA (op2 ixD (varE 1) (constE (.int 1))) nilA)))
    (consS tr
    (consS (setS 9 (op2 ixD (varE 1) (constE (.int 3))))
    (consS (ifS (cmpT eqD (varE 9) (constE (.str [42])))
    (setS 9 (constE (.str [])))
    (ifS (orT (cmpT eqD (varE 9) (constE (.str []))) (notT (truT (fnE 1 (closeFn fn_is_name) (consA (varE 9) nilA)))))
    (raiseS 2)
    nilS))
    (consS (ifS (orT (cmpT eqD (varE 6) (constE (.int 0))) (cmpT gtD (callE lenF (consA (varE 2) nilA)) (constE c_WORDS_MOST)))
    (raiseS 2)
    nilS)
    (retS (tupE (consA (varE 6) (consA (tupE (consA (varE 7) (consA (varE 8) (consA (varE 9) (consA (varE 2) nilA))))) nilA))))))))) [some T, some (.ob 0), some (.str w), some (.int 3), some (.str d), some (.str [32]), none, none, none, none] O1 = x → RB tr [some T, none, none, none, none, none, none, none, none, none] [] = x := by
    intro x h
    unfold RB
    refine cs_nx (r1 := [some T, some (.ob 0), none, none, none, none, none, none, none, none]) (O1 := [.lst []]) (by simp) ?_
    refine cs_nx (r1 := [some T, some (.ob 0), some T, none, none, none, none, none, none, none]) (O1 := [.lst []]) (by simp) ?_
    refine cs_nx (r1 := [some T, some (.ob 0), some (.str w), some (.int 3), some (.str d), some (.str [32]), none, none, none, none]) (O1 := O1) (by subst hT; simp only [ev_forS, ev_callI, ev_consA, ev_const, ev_nilA, bind_ok', range1_int, hf4, if_true, hr4, bindS_ok', loop]) ?_
    exact h
  unfold rrP
  cases q1 : figT a with
  | none =>
    rw [q1] at f1
    refine ⟨_, pre _ (cs_exc (r1 := [some T, some (.ob 0), some (.str w), some (.int 3), some (.str d), some (.str [32]), none, none, none, none]) ?_)⟩
    simp only [ev_setS, ev_fnE, ev_consA, ev_nilA, i0, bind_ok', List.length_cons, List.length_nil, Nat.zero_add, if_true, f1]; rfl
  | some n =>
  rw [q1] at f1
  have s6 : setS 6 (fnE 1 (closeFn fn_read_figures) (consA (op2 ixD (varE 1) (constE (.int 0))) nilA)) [some T, some (.ob 0), some (.str w), some (.int 3), some (.str d), some (.str [32]), none, none, none, none] O1 = .nx [some T, some (.ob 0), some (.str w), some (.int 3), some (.str d), some (.str [32]), some (.int n), none, none, none] O1 := by
    simp only [ev_setS, ev_fnE, ev_consA, ev_nilA, i0, bind_ok', List.length_cons, List.length_nil, Nat.zero_add, if_true, f1, bindS_ok', List.set]
  cases q2 : figT b with
  | none =>
    rw [q2] at f2
    refine ⟨_, pre _ (cs_nx s6 (cs_exc (r1 := [some T, some (.ob 0), some (.str w), some (.int 3), some (.str d), some (.str [32]), some (.int n), none, none, none]) ?_))⟩
    simp only [ev_setS, ev_fnE, ev_consA, ev_nilA, i1, bind_ok', List.length_cons, List.length_nil, Nat.zero_add, if_true, f2]; rfl
  | some m =>
  rw [q2] at f2
  have s7 : setS 7 (fnE 1 (closeFn fn_read_figures) (consA (op2 ixD (varE 1) (constE (.int 1))) nilA)) [some T, some (.ob 0), some (.str w), some (.int 3), some (.str d), some (.str [32]), some (.int n), none, none, none] O1 = .nx [some T, some (.ob 0), some (.str w), some (.int 3), some (.str d), some (.str [32]), some (.int n), some (.int m), none, none] O1 := by
    simp only [ev_setS, ev_fnE, ev_consA, ev_nilA, i1, bind_ok', List.length_cons, List.length_nil, Nat.zero_add, if_true, f2, bindS_ok', List.set]
  cases q3 : fst c 0 100 with
  | none =>
    obtain ⟨r', e⟩ := tno (some T) (some (.str w)) (some (.int 3)) (some (.str d)) (some (.str [32])) (some (.int n)) (some (.int m)) q3
    exact ⟨r', pre _ (cs_nx s6 (cs_nx s7 (cs_exc e)))⟩
  | some l =>
  have s8 := tok l (some T) (some (.str w)) (some (.int 3)) (some (.str d)) (some (.str [32])) (some (.int n)) (some (.int m)) q3
  have s9 : setS 9 (op2 ixD (varE 1) (constE (.int 3))) [some T, some (.ob 0), some (.str w), some (.int 3), some (.str d), some (.str [32]), some (.int n), some (.int m), some (.int l), none] O1 = .nx [some T, some (.ob 0), some (.str w), some (.int 3), some (.str d), some (.str [32]), some (.int n), some (.int m), some (.int l), some (.str d)] O1 := by
    simp only [ev_setS, i3, bindS_ok', List.set]
  dsimp only
  by_cases q4 : d ≠ [42] ∧ (d = [] ∨ isNm d = false)
  · rw [if_pos q4]
    refine ⟨_, pre _ (cs_nx s6 (cs_nx s7 (cs_nx s8 (cs_nx s9 (cs_exc (r1 := [some T, some (.ob 0), some (.str w), some (.int 3), some (.str d), some (.str [32]), some (.int n), some (.int m), some (.int l), some (.str d)]) ?_)))))⟩
    obtain ⟨z1, z2⟩ := q4
    rcases z2 with z2 | z2
    · subst z2; simp [raiseS]
    · rw [z2] at hnm
      by_cases z3 : d = []
      · subst z3; simp [raiseS]
      · simp [z1, z3, hnm, raiseS]
  rw [if_neg q4]
  have s10 : (ifS (cmpT eqD (varE 9) (constE (.str [42])))
    (setS 9 (constE (.str [])))
    (ifS (orT (cmpT eqD (varE 9) (constE (.str []))) (notT (truT (fnE 1 (closeFn fn_is_name) (consA (varE 9) nilA)))))
    (raiseS 2)
    nilS)) [some T, some (.ob 0), some (.str w), some (.int 3), some (.str d), some (.str [32]), some (.int n), some (.int m), some (.int l), some (.str d)] O1 = .nx [some T, some (.ob 0), some (.str w), some (.int 3), some (.str d), some (.str [32]), some (.int n), some (.int m), some (.int l), some (.str (if d = [42] then [] else d))] O1 := by
    by_cases z : d = [42]
    · subst z; simp
    · have z2 : ¬ (d = [] ∨ isNm d = false) := fun h => q4 ⟨z, h⟩
      have z3 : d ≠ [] := fun h => z2 (.inl h)
      have z4 : isNm d = true := by
        cases e : isNm d with
        | true => rfl
        | false => exact absurd (.inr e) z2
      rw [z4] at hnm
      simp [z, z3, hnm]
  generalize (if d = [42] then [] else d : Tx) = nm at *
  by_cases q5 : n = 0 ∨ 80 < w.length
  · rw [if_pos q5]
    refine ⟨_, pre _ (cs_nx s6 (cs_nx s7 (cs_nx s8 (cs_nx s9 (cs_nx s10 (cs_exc (r1 := [some T, some (.ob 0), some (.str w), some (.int 3), some (.str d), some (.str [32]), some (.int n), some (.int m), some (.int l), some (.str nm)]) ?_))))))⟩
    by_cases z : n = 0
    · subst z; simp [raiseS]
    · have z2 : 80 < w.length := by omega
      simp [z, raiseS, c_WORDS_MOST, hs, show w.length ≤ 16777216 by omega, show (80 : Int) < w.length by omega, z2]
  · rw [if_neg q5]
    refine ⟨[], pre _ (cs_nx s6 (cs_nx s7 (cs_nx s8 (cs_nx s9 (cs_nx s10 (cs_nx (r1 := [some T, some (.ob 0), some (.str w), some (.int 3), some (.str d), some (.str [32]), some (.int n), some (.int m), some (.int l), some (.str nm)]) (O1 := O1) ?_ ?_))))))⟩
    · have z1 : ¬ n = 0 := fun h => q5 (.inl h)
      have z2 : ¬ 80 < w.length := fun h => q5 (.inr h)
      simp [z1, hs, c_WORDS_MOST, show w.length ≤ 16777216 by omega, z2, show ¬ (80 : Int) < w.length by omega]
    · simp [hs]
end Dn
set_option Elab.async false
set_option linter.all false
set_option maxRecDepth 100000
set_option maxHeartbeats 4000000
/-! `is True`, `is not True` of truths -/
namespace Dn
open PySem PySem.Spec PyProof.Rows L2
section
variable {C : Ctx} {X : Cx} {W : WX} {a b : Expr} {fa fb : DE0} {pos : Pos}
def isBlD : O2 := fun a b O => match a, b with
  | .bl x, .bl y => .ok (.bl (decide (x = y))) O
  | _, _ => .bad
def notBlD : O2 := fun a b O => match a, b with
  | .bl x, .bl y => .ok (.bl (!decide (x = y))) O
  | _, _ => .bad
theorem s_isB : Sat2 C W (fun x y H Q => ∃ a b, x = .bl a ∧ y = .bl b ∧ Q (.bl (decide (a = b))) H) isBlD := by
  intro g H O R a b x y sx sy σ Q h
  unfold isBlD at h
  split at h
  · cases sx; cases sy; exact ⟨_, _, rfl, rfl, Post.fin R rfl h⟩
  · exact h.elim
theorem s_notB : Sat2 C W (fun x y H Q => ∃ a b, x = .bl a ∧ y = .bl b ∧ Q (.bl (!decide (a = b))) H) notBlD := by
  intro g H O R a b x y sx sy σ Q h
  unfold notBlD at h
  split at h
  · cases sx; cases sy; exact ⟨_, _, rfl, rfl, Post.fin R rfl h⟩
  · exact h.elim
theorem e_isB (ha : DE C X W a fa) (hb : DE C X W b fb) : DE C X W (.Compare a [.Is] [b] pos) (op2 isBlD fa fb) := d_cmp op_is_bl s_isB ha hb
theorem e_notB (ha : DE C X W a fa) (hb : DE C X W b fb) : DE C X W (.Compare a [.IsNot] [b] pos) (op2 notBlD fa fb) := d_cmp op_isnot_bl s_notB ha hb
theorem t_isB (ha : DE C X W a fa) (hb : DE C X W b fb) : DT C X W (.Compare a [.Is] [b] pos) (cmpT isBlD fa fb) := t_cmp op_is_bl s_isB ha hb
theorem t_notB (ha : DE C X W a fa) (hb : DE C X W b fb) : DT C X W (.Compare a [.IsNot] [b] pos) (cmpT notBlD fa fb) := t_cmp op_isnot_bl s_notB ha hb
end
end Dn
set_option Elab.async false
set_option linter.all false
set_option maxRecDepth 100000
set_option maxHeartbeats 4000000
/-! the suite x = f"..{e.at}" -/
namespace Dn
open PySem PySem.Spec PySem.OwnX PyProof.Rows L2
section
variable {C : Ctx} {X : Cx} {W : WX} {A fI : Addr} {cn iq : Str} {pos pos' : Pos}
def badF (j : Nat) (l : List Nat) : D → DS0 := fun d => match d with
  | .int i => if i.natAbs.log2 < 1920 ∧ l.length + (numT i).length ≤ sizeLine then setS j (constE (.str (l ++ numT i))) else fun _ _ => .bad
  | _ => fun _ _ => .bad
theorem s_tryAsF (i n slot j : Nat) (l : List Nat) {c : Value} {x en y bd : Str} {np ep apos fpos cp tpos py spos : Pos} {kk : Nat} {body : List Stmt} {f : DS0} (hs : X.stack = X.env :: X.outer) (hf : X.env.frame = some X.env.locals) (hN : X.N.Nodup) (hK : X.K = C.K) (hc : Names X x c) (tk : Takes X W)
    (he : C.ec i = some A) (hn : C.fn n = "at") (hm : ∀ j A', C.ec j = some A' → PySem.W.exmOne C.K (.ref A') c = some (decide (j = i))) (T : PySem.OwnX.OwnTxt cn iq C.K X.mg A fI)
    (hb : ∀ (W' : WX) (pn : List (Addr × Obj)) (xe : Value → Shared → Prop), Takes (X.tr pn xe) W' → PassesOwn (model X.prog X.w) X.A X.env xe → DSs C (X.tr pn xe) W' body f)
    (hbd : bd = ⟨l.toArray⟩) (hl : l.length ≤ 1000) (hv : ∀ (a : Addr) (pn : List (Addr × Obj)), PE (X.suite a pn) (.Name en ep) (tVar slot))
    (hset : ∀ (a : Addr) (pn : List (Addr × Obj)) (te : TE), PE (X.suite a pn) (.JoinedStr [.Constant (.str bd) kk cp, .FormattedValue (.Attribute (.Name en ep) "at" apos) (-1) none fpos] tpos) te → PS (X.suite a pn) (.Assign [.Name y py] (.JoinedStr [.Constant (.str bd) kk cp, .FormattedValue (.Attribute (.Name en ep) "at" apos) (-1) none fpos] tpos) spos) (tAsg te (gName j)))
    (hbase : attributeBase (.Name en ep) "at" X.env (eval (.Name en ep) X.env) = eval (.Name en ep) X.env := by rfl)
    (hi : X.N[slot]? = some en := by rfl) (hln : X.env.kindOf en = some .local := by rfl) :
    DS C X W (.Try body [.ExceptHandler (some (.Name x np)) (some en) [.Assign [.Name y py] (.JoinedStr [.Constant (.str bd) kk cp, .FormattedValue (.Attribute (.Name en ep) "at" apos) (-1) none fpos] tpos) spos] pos'] [] [] pos) (tryAsS i n slot f (badF j l)) := by
  subst hbd
  have hsz : sizeLine = 16777216 := by decide
  refine s_tryAs (A := A) (ts := fun a cls d => tAsg (fun σ H Q => tJs [tC (.str ⟨l.toArray⟩), tFmt (tAtOwn A a cls d (tVar slot))] Str.empty σ H fun out H1 => Q (.str out) H1) (gName j)) i n slot hs hf hN hK hc tk he hn hm hb (fun a oe cls d pn hz hff => ?_) (fun a dd g σ H r O d v R S h1 h2 sv E q => ?_) hi hln
  · exact pss_one (hset a _ _ (pe_joined (.cons pe_str (.cons (pe_fmt (pe_atOwn (hK ▸ T) hz hff (hv a _) hbase)) .nil))))
  · cases d with
    | int i =>
      cases sv
      have hq0 : PostS C noW g H ((if i.natAbs.log2 < 1920 ∧ l.length + (numT i).length ≤ sizeLine then setS j (constE (.str (l ++ numT i))) else fun _ _ => .bad) r O) E := q
      by_cases hz : i.natAbs.log2 < 1920 ∧ l.length + (numT i).length ≤ sizeLine
      · rw [if_pos hz] at hq0
        have e0 : (Str.empty ++ (⟨l.toArray⟩ : Str)) = mkS l := mkS_app [] l
        have e1 : mkS (numT i) = toString i := (mkS_num i).symm
        have hl0 : (mkS l).length = l.length := by simp [mkS, Str.length]
        refine ⟨⟨l.toArray⟩, rfl, by rw [e0, hl0]; omega, .ref a, h1, rfl, rfl, dd, .int i, rfl, h2, .inr ⟨i, rfl, hz.1, ⟨toString i, rfl, ?_, ?_⟩⟩⟩
        · rw [e0, ← e1, mkS_app]
          have : (mkS (l ++ numT i)).length = (l ++ numT i).length := by simp [mkS, Str.length]
          rw [this, List.length_append]; exact hz.2
        · rw [e0, ← e1, mkS_app]
          exact hq0 _ g H (Ext.refl R) R (S.set (show Shr C.K g (.str (l ++ numT i)) (.str (mkS (l ++ numT i))) from rfl))
      · rw [if_neg hz] at hq0
        exact hq0.elim
    | non => exact q.elim
    | bl b => exact q.elim
    | str x => exact q.elim
    | tup x => exact q.elim
    | lst x => exact q.elim
    | scr x => exact q.elim
    | ob x => exact q.elim
end
end Dn
set_option Elab.async false
set_option linter.all false
set_option maxRecDepth 100000
set_option maxHeartbeats 4000000
/-! len(set(xs)) of whole numbers, equal ones too -/
namespace Dn
open PySem PySem.Spec PyProof.Rows L2
/-- how many differ -/
def cntI (ns : List Int) : Nat := (PyProof.Rows.firstMet (fun i => ns.getD i 0) ns.length).length
theorem firstMet_le (f : Nat → Int) : ∀ n, (PyProof.Rows.firstMet f n).length ≤ n
  | 0 => Nat.le_refl _
  | n + 1 => by
    rw [PyProof.Rows.firstMet_succ]
    have := firstMet_le f n
    show (if (PyProof.Rows.firstMet f n).any (· == f n) then PyProof.Rows.firstMet f n else PyProof.Rows.firstMet f n ++ [f n]).length ≤ n + 1
    split
    · omega
    · rw [List.length_append, List.length_singleton]; omega
theorem firstMet_same (f : Nat → Int) (a : Int) (h : ∀ i, f i = a) : ∀ n, PyProof.Rows.firstMet f (n + 1) = [a]
  | 0 => by
    rw [PyProof.Rows.firstMet_succ]
    show (if ([] : List Int).any (· == f 0) then [] else [] ++ [f 0]) = [a]
    rw [h]; rfl
  | n + 1 => by
    rw [PyProof.Rows.firstMet_succ, firstMet_same f a h n]
    show (if ([a] : List Int).any (· == f (n + 1)) then [a] else [a] ++ [f (n + 1)]) = [a]
    rw [h]; simp
theorem firstMet_congr (f g : Nat → Int) : ∀ n, (∀ i, i < n → f i = g i) → PyProof.Rows.firstMet f n = PyProof.Rows.firstMet g n
  | 0, _ => rfl
  | n + 1, h => by
    rw [PyProof.Rows.firstMet_succ, PyProof.Rows.firstMet_succ, firstMet_congr f g n (fun i hi => h i (by omega)), h n (by omega)]
theorem cntI_same {ns : List Int} {a : Int} (h : ∀ x ∈ ns, x = a) (hne : ns ≠ []) : cntI ns = 1 := by
  unfold cntI
  obtain ⟨k, hk⟩ : ∃ k, ns.length = k + 1 := ⟨ns.length - 1, by have := List.length_pos_iff.mpr hne; omega⟩
  rw [firstMet_congr _ (fun _ => a) ns.length (fun i hi => by
    show ns.getD i 0 = a
    rw [List.getD_eq_getElem?_getD, List.getElem?_eq_getElem hi]
    exact h _ (List.getElem_mem hi)), hk, firstMet_same _ a (fun _ => rfl)]
  rfl
section
variable {C : Ctx} {X : Cx} {W : WX} {a : Expr} {fa : DE0} {p p2 q pos : Pos}
def tLenSetU (K : PySem.W.Frag) (ta : TE) : TE := fun σ H Q => ta σ H fun x H1 => ∃ (l : Addr) (ns : List Int), x = .ref l ∧ SqL K H1 l (ns.map V.int) ∧ ns.length ≤ 4000 ∧ Q (.int (cntI ns : Nat)) H1
theorem pe_lenSetU {ta : TE} (hg : Gl X "len") (hm : X.mg "len" = none) (hg2 : Gl X "set") (hm2 : X.mg "set" = none) (ha : PE X a ta) (hc : X.calm = true := by rfl)
    (na : starEach [a] X.env = (false, eval a X.env) :: starEach [] X.env := by rfl) : PE X (.Call (.Name "len" p) [.Call (.Name "set" p2) [a] [] q] [] pos) (tLenSetU X.K ta) := by
  refine ⟨fun pins s σ H Q I h => ?_⟩
  refine Call_ (ld_blt I hg hm boot_len ?_)
  refine PyProof.Rows.callWith_builtin1 (PyProof.Rows.args_cons ?_ rfl) rfl rfl
  refine Call_ (ld_blt I hg2 hm2 boot_set ?_)
  refine PyProof.Rows.callWith_type1 (PyProof.Rows.args_cons (thn (ha.run pins s σ H _ I h) fun v s1 ⟨x, H1, I1, r1, q1⟩ => PyProof.Rows.args_nil ?_) na) na rfl
  obtain ⟨l, ns, rfl, hq, hl, q1⟩ := q1
  cases r1
  obtain ⟨its, r, pl, hz⟩ := I1.list hq
  have hlen : its.toArray.size = ns.length := by rw [List.size_toArray, ← r.length, List.length_map]
  refine call_set_list (I1.ok.hd hc) pl.isList (by simpa using RZ.intsAre_vals r) (by rw [hlen]; unfold scanBound; omega) fun h' tk hS hk => ?_
  refine PyProof.Rows.args_nil ?_
  rw [hlen] at hS
  obtain ⟨o, es, ep, t, ho, hex, hd, _, _, _, hf, hn⟩ := hS
  have hle := firstMet_le (fun i => ns.getD i 0) ns.length
  have I2 : Inv X pins σ H1 { s1 with heap := h', toks := tk } := I1.kept fun b o e => hk b o (Heap.lt_size e) e
  exact call_len_set ho hex hd hf (by rw [hn] <;> omega) ⟨.int (cntI ns : Nat), H1, I2.tok _, ⟨_, by rw [hn]; rfl⟩, q1⟩
def lenSetE (fa : DE0) : DE0 := fun r O => (fa r O).bind fun d O1 => match listR d O1 with
  | some xs => (match intsD xs with
    | some ns => if ns.length ≤ 4000 then .ok (.int (cntI ns : Nat)) O1 else .bad
    | none => .bad)
  | none => .bad
theorem e_lenSet (hK : X.K = C.K) (hc : X.calm = true) (hm : X.mg "len" = none) (hg : Gl X "len") (hm2 : X.mg "set" = none) (hg2 : Gl X "set") (ha : DE C X W a fa)
    (na : starEach [a] X.env = (false, eval a X.env) :: starEach [] X.env := by rfl) : DE C X W (.Call (.Name "len" p) [.Call (.Name "set" p2) [a] [] q] [] pos) (lenSetE fa) :=
  let ⟨_, pa, sa⟩ := ha.ex
  ⟨_, pe_lenSetU hg hm hg2 hm2 pa hc na, fun g σ H r O R S Q h => sa.seq R S h fun d O1 v g1 H1 e1 R1 S1 s1 h1 => by
    split at h1
    · rename_i xs ex
      split at h1
      · rename_i ns en
        split at h1
        · rename_i hl
          obtain ⟨l, ws, rfl, q1, q2⟩ := listR_of R1 s1 ex
          have := shrL_intsD en q2
          subst this
          exact ⟨l, ns, rfl, by rw [hK]; exact q1, hl, Post.fin R1 rfl h1⟩
        · exact h1.elim
      · exact h1.elim
    · exact h1.elim⟩
end
end Dn
set_option Elab.async false
set_option linter.all false
set_option maxRecDepth 100000
set_option maxHeartbeats 4000000
/-! int(a truth) -/
namespace Dn
open PySem PySem.Spec PyProof.Rows L2
section
variable {C : Ctx} {X : Cx} {W : WX} {e : Expr} {es : List Expr} {fas : Rho → Sto → Res (List D)} {p pos : Pos}
def int1F : List D → Sto → ER := fun ds O => match ds with
  | [.int i] => .ok (.int i) O
  | [.bl b] => .ok (.int (if b then 1 else 0)) O
  | _ => .bad
theorem s_int1 : SatC C W (fun xs H Q => (∃ i, xs = [.int i] ∧ Q (.int i) H) ∨ ∃ k, xs = [.bl k] ∧ Q (.int (if k then 1 else 0)) H) int1F := by
  intro g H O R ds vs s σ Q h
  unfold int1F at h
  split at h
  · obtain ⟨v, rfl, sv⟩ := shrL_one s
    cases sv
    exact .inl ⟨_, rfl, Post.fin R rfl h⟩
  · obtain ⟨v, rfl, sv⟩ := shrL_one s
    cases sv
    exact .inr ⟨_, rfl, Post.fin R rfl h⟩
  · exact h.elim
theorem e_int1 (hm : X.mg "int" = none) (hg : Gl X "int") (ha : DA C X W (e :: es) fas)
    (he : starEach (e :: es) X.env = (false, eval e X.env) :: starEach es X.env := by rfl) (hpl : (backTo pos (starEach es X.env)).any (·.1) = false := by rfl) : DE C X W (.Call (.Name "int" p) (e :: es) [] pos) (callE int1F fas) :=
  d_callTy (call_int1 (X := X)) s_int1 hg hm (by decide +kernel) ha (by decide) (by decide) he hpl
end
end Dn
set_option Elab.async false
set_option linter.all false
set_option maxRecDepth 100000
set_option maxHeartbeats 4000000
/-! xs[::-1]; xs.count(a truth); sorted(truths) -/
namespace SrtO
open PySem PyProof.Rows Srt
section
variable {prog : Program} {w : World} {A : Around} {E : Value → Shared → Prop} {s : Shared}
def bv : Value → Int
  | .bool b => PyProof.Rows.b2i b
  | _ => 0
def ltBv (v u : Value) : Bool := decide (bv v < bv u)
theorem swo_bv : Swo ltBv := by
  refine ⟨fun x y h => ?_, fun x y z h1 h2 => ?_⟩
  · have a := of_decide_eq_true (p := bv x < bv y) h
    exact decide_eq_false (p := bv y < bv x) (by omega)
  · have a := of_decide_eq_false (p := bv y < bv x) h1
    have b := of_decide_eq_false (p := bv z < bv y) h2
    exact decide_eq_false (p := bv z < bv x) (by omega)
theorem bl_cmp (bs : List Bool) : Cmp prog w A s oneType' (fun p => p.1 ∈ bs.map Value.bool) (lt2 ltBv) := by
  intro p q hm hm'
  obtain ⟨a, _, e⟩ := List.mem_map.mp hm
  obtain ⟨b, _, e'⟩ := List.mem_map.mp hm'
  show wpAny (model prog w) A (keyLt' oneType' p.1 q.1) (fun r s' => s' = s ∧ r = ltBv p.1 q.1) (fun _ _ => False) s
  rw [← e, ← e', keyLt'_oneType]
  exact PySem.W.oneLt_bool ⟨rfl, rfl⟩
theorem mapM_first_bl : ∀ bs : List Bool, (bs.map Value.bool).mapM firstOfTuple' = pure ((bs.map Value.bool).map fun _ => none)
  | [] => by simp
  | b :: bs => by
    rw [List.map_cons, List.mapM_cons, mapM_first_bl bs]
    show (pure none >>= _) = _
    simp
theorem mapM_type_bl : ∀ bs : List Bool, (bs.map Value.bool).mapM typeOf = pure ((bs.map Value.bool).map fun _ => Value.type "bool")
  | [] => by simp
  | b :: bs => by
    rw [List.map_cons, List.mapM_cons, mapM_type_bl bs]
    show (pure (Value.type "bool") >>= fun b => pure _ >>= fun bs => pure (b :: bs)) = _
    simp
theorem keyKind_bl (b1 b2 : Bool) (bs : List Bool) : keyKind' ((b1 :: b2 :: bs).map Value.bool).toArray = pure oneType' := by
  rw [keyKind'_eq, List.mapM_toArray, mapM_first_bl]
  simp only [map_pure, pure_bind]
  rw [if_neg (by simp), if_neg (by simp)]
  rw [oneTypeOnly'_eq, List.mapM_toArray, mapM_type_bl]
  simp only [map_pure, pure_bind]
  have hall : ((List.map (fun _ => Value.type "bool") ((b1 :: b2 :: bs).map Value.bool)).toArray.all fun x => x == Value.type "bool") = true := by
    simp only [List.all_toArray, List.all_map, List.all_eq_true]
    intro _ _
    rfl
  have h0 : (List.map (fun _ => Value.type "bool") ((b1 :: b2 :: bs).map Value.bool)).toArray[0]? = some (Value.type "bool") := by simp
  rw [h0]
  simp only [hall, if_true, pure_bind]
  rfl
theorem bl_sortable {a : Addr} (bs : List Bool) (h2 : 2 ≤ (bs.map Value.bool).length) : SortableO prog w A s a (bs.map Value.bool) ltBv := by
  intro h' _
  refine ⟨oneType', fun Q E hq => ?_, bl_cmp bs⟩
  match bs, h2 with
  | v1 :: v2 :: rest, _ =>
    rw [keyKind_bl]
    exact wpAny_pure hq
  | [], h => exact absurd h (by decide)
  | [v], h => exact absurd h (by simp)
end
end SrtO
namespace Dn
open PySem PySem.Spec PyProof.Rows L2
section
variable {C : Ctx} {X : Cx} {W : WX} {a o e : Expr} {es : List Expr} {fa fo : DE0} {fas : Rho → Sto → Res (List D)} {p pos apos : Pos}
/-! ### a list turned round -/
theorem shrL_reverse {K : PySem.W.Frag} {g : G} : ∀ {ds : List D} {vs : List V}, ShrL K g ds vs → ShrL K g ds.reverse vs.reverse
  | [], vs, h => by simp only [ShrL] at h; subst h; simp [ShrL]
  | d :: ds, vs, h => by
    simp only [ShrL] at h
    obtain ⟨v, r, rfl, h1, h2⟩ := h
    rw [List.reverse_cons, List.reverse_cons]
    refine shrL_append (shrL_reverse h2) ?_
    simp only [ShrL]
    exact ⟨v, [], rfl, h1, rfl⟩
def revE (m : Bool) (f : DE0) : DE0 := fun r O => (f r O).bind fun d O1 => match listR d O1 with | some ds => mkL m ds.reverse O1 | none => .bad
@[simp] theorem ev_revE (m : Bool) (f : DE0) (r : Rho) (O : Sto) : revE m f r O = (f r O).bind fun d O1 => match listR d O1 with | some ds => mkL m ds.reverse O1 | none => .bad := rfl
theorem d_rev (m : Bool) (hK : X.K = C.K) {k : Nat} {p1 p2 p3 : Pos} (ha : DE C X W a fa) : DE C X W (.Subscript a (.Slice none none (some (.UnaryOp .USub (.Constant (.int 1) k p1) p2)) p3) pos) (revE m fa) :=
  let ⟨_, pa, sa⟩ := ha.ex
  ⟨_, pe_revL pa, fun g σ H r O R S Q h => sa.seq R S h fun d O1 v g1 H1 e1 R1 S1 s1 h1 => by
    split at h1
    · rename_i ds e
      obtain ⟨q, vs, rfl, h4, h5⟩ := listR_of R1 s1 e
      rw [hK]
      exact ⟨q, vs, rfl, h4, fun q hq => new_lst R1 (shrL_reverse h5) h1 hq⟩
    · exact h1.elim⟩
/-! ### lists of truths -/
def boolsD : List D → Option (List Bool)
  | [] => some []
  | .bl i :: ds => (boolsD ds).map (i :: ·)
  | _ :: _ => none
theorem boolsD_map : ∀ bs : List Bool, boolsD (bs.map D.bl) = some bs
  | [] => rfl
  | b :: bs => by simp [boolsD, boolsD_map bs]
theorem shrL_boolsD {K : PySem.W.Frag} {g : G} : ∀ {ds : List D} {bs : List Bool} {vs : List V}, boolsD ds = some bs → ShrL K g ds vs → vs = bs.map V.bl
  | [], bs, vs, e, s => by simp [boolsD] at e; subst e; simp only [ShrL] at s; rw [s]; rfl
  | d :: ds, bs, vs, e, s => by
    cases d with
    | bl i =>
      simp only [boolsD, Option.map_eq_some_iff] at e
      obtain ⟨ms, e1, rfl⟩ := e
      simp only [ShrL] at s
      obtain ⟨v, r, rfl, h1, h2⟩ := s
      have := shrL_boolsD e1 h2
      subst this
      cases h1
      rfl
    | _ => simp [boolsD] at e
theorem shrL_bls {K : PySem.W.Frag} {g : G} : ∀ (bs : List Bool), ShrL K g (bs.map D.bl) (bs.map V.bl)
  | [] => by simp [ShrL]
  | b :: bs => by
    simp only [List.map_cons, ShrL]
    exact ⟨_, _, rfl, rfl, shrL_bls bs⟩
theorem vals_bls : ∀ {bs : List Bool} {us : List Value}, Vals (bs.map V.bl) us → us = bs.map Value.bool
  | [], _, .nil => rfl
  | b :: bs, _, .cons r t => by
    cases r
    rw [vals_bls t]; rfl
theorem bls_vals : ∀ bs : List Bool, Vals (bs.map V.bl) (bs.map Value.bool)
  | [] => .nil
  | b :: bs => .cons rfl (bls_vals bs)
theorem reads_bls (h : Heap) : ∀ bs : List Bool, ReadsAll h (bs.map Value.bool) (bs.map PyData.bool) []
  | [] => .nil
  | b :: bs => readsAll_cons_val (.bool b) (reads_bls h bs)
theorem countIn_bls (k : Bool) : ∀ bs : List Bool, countIn (.bool k) (bs.map PyData.bool) = ((bs.count k : Nat) : Int)
  | [] => rfl
  | b :: bs => by
    rw [List.map_cons, countIn, countIn_bls k bs, List.count_cons]
    simp only [same]
    cases b <;> cases k <;> simp <;> omega
def rCountB (K : PySem.W.Frag) : V → List V → Hp → VK → Prop := fun x xs H Q => ∃ (a : Addr) (bs : List Bool) (k : Bool), x = .ref a ∧ xs = [.bl k] ∧ SqL K H a (bs.map V.bl) ∧ Q (.int (bs.count k : Nat)) H
theorem mt_countB : MtR X "list.count" (rCountB X.K) := by
  intro pins s σ H x xs v us Q I rx rxs h
  obtain ⟨a, bs, k, rfl, rfl, hs, q⟩ := h
  cases rx
  obtain ⟨its, rv, hl, hz⟩ := I.list hs
  have hi := vals_bls rv
  subst hi
  have hu : us = [Value.bool k] := vals_bls (bs := [k]) rxs
  subst hu
  refine count_list_bools hl.isList (reads_bls s.heap bs) (by simp [Shape.has]) ?_
  rw [countIn_bls]
  exact ⟨.int _, H, I.tok _, ⟨_, rfl⟩, q⟩
def count1F : D → List D → Sto → ER := fun d ds O => match ds with
  | [.bl k] => (match listR d O with | some xs => (match boolsD xs with | some bs => .ok (.int (bs.count k : Nat)) O | none => .bad) | none => .bad)
  | _ => .bad
theorem s_countB : SatM C W (rCountB C.K) count1F := by
  intro g H O R d ds v vs s sl σ Q h
  unfold count1F at h
  split at h
  · rename_i k
    obtain ⟨w, rfl, sy⟩ := shrL_one sl
    cases sy
    split at h
    · rename_i xs ex
      obtain ⟨a, ws, rfl, h1, h2⟩ := listR_of R s ex
      split at h
      · rename_i bs eb
        have := shrL_boolsD eb h2
        subst this
        exact ⟨a, bs, k, rfl, rfl, h1, Post.fin R rfl h⟩
      · exact h.elim
    · exact h.elim
  · exact h.elim
def countE1 (fo : DE0) (fas : Rho → Sto → Res (List D)) : DE0 := bmE tyLst count1F fo fas
theorem e_count1 (hK : X.K = C.K) {cpos : Pos} (ho : DE C X W o fo) (ha : DA C X W [e] fas)
    (hbase : attributeBase o "count" X.env (eval o X.env) = eval o X.env := by rfl)
    (hfew : ((backTo cpos (starEach [e] X.env)).all (fun x => !x.1) && (backToKw cpos (keywordEach [] X.env)).all (fun x => x.1.isSome)
      && decide ([e].length + ([] : List Keyword).length + (if ([] : List Keyword).isEmpty then 0 else 1) < 30)) = true := by rfl)
    (hline : (apos.endLine == cpos.line) = true := by rfl) (hs : starEach [e] X.env = (false, eval e X.env) :: starEach [] X.env := by rfl) (hplain : (backTo cpos (starEach [] X.env)).any (·.1) = false := by rfl) :
    DE C X W (.Call (.Attribute o "count" apos) [e] [] cpos) (countE1 fo fas) :=
  d_bm hK PySem.F.plainAttrs_list PySem.F.slot_list_count PySem.F.type_list_count mt_countB (by rw [hK]; exact s_countB) ty_lst ho ha hbase hfew hline hs hplain
/-! ### sorted -/
def sortB (l : List Bool) : List Bool := l.mergeSort fun a b => !a || b
theorem sortB_is {ys xs : List Bool} (hp : ys.Perm xs) (hs : ys.Pairwise fun a b => (!a || b) = true) : ys = sortB xs := by
  have h3 : (sortB xs).Pairwise (fun a b => (!a || b) = true) := List.pairwise_mergeSort (fun a b c h k => by cases a <;> cases b <;> cases c <;> simp at *) (fun a b => by cases a <;> cases b <;> rfl) xs
  exact List.Perm.eq_of_pairwise (le := fun a b => (!a || b) = true) (fun a b _ _ h k => by cases a <;> cases b <;> simp at *) hs h3 (hp.trans (List.mergeSort_perm _ _).symm)
def rSortedB (K : PySem.W.Frag) : List V → Hp → VK → Prop := fun vs H Q => ∃ (a : Addr) (bs : List Bool), vs = [V.ref a] ∧ SqL K H a (bs.map V.bl) ∧
  ∀ (p : Addr), H p = none → Q (.ref p) (upd H p (.lst ((sortB bs).map V.bl)))
theorem cr_sortedB : CallR X (.builtin "sorted") (rSortedB X.K) := by
  intro pins s σ H vs us Q I r h
  obtain ⟨a, bs, rfl, hs, q⟩ := h
  obtain ⟨its, rv, hl, hz⟩ := I.list hs
  rw [Vals.ref1 r]
  have hi := vals_bls rv
  subst hi
  have hz' : (bs.map Value.bool).length ≤ sizeLine := by simpa using hz
  refine SrtO.sorted_ord SrtO.swo_bv hl.isList hz' (fun h2 h₁ a' _ _ => SrtO.bl_sortable bs h2) fun out h1 h2 => ?_
  obtain ⟨bs', rfl, hp⟩ := perm_map_inv h2.perm rfl
  have hpw : bs'.Pairwise fun a b => (!a || b) = true := by
    have h1' : ((bs'.map Value.bool)).Pairwise (fun x y => SrtO.ltBv y x = false) := h1
    rw [List.pairwise_map] at h1'
    exact h1'.imp fun {x y} h => by
      have := of_decide_eq_false (p := SrtO.bv (Value.bool y) < SrtO.bv (Value.bool x)) h
      cases x <;> cases y <;> simp [SrtO.bv, PyProof.Rows.b2i] at *
  have hsame := sortB_is hp hpw
  obtain ⟨ep, he'⟩ := PyProof.Rows.sortedAll_at s.heap (bs.map Value.bool) (bs'.map Value.bool).toArray
  have hlen : (bs'.map V.bl).length ≤ sizeLine := by
    rw [List.length_map, hp.length_eq]
    rw [List.length_map] at hz
    exact hz
  refine ⟨.ref _, upd H (s.heap.objs.size + 1) (.lst (bs'.map V.bl)), I.laid (t' := s.toks) (fun _ _ => PyProof.Rows.sortedAll_old) (Nat.le_succ _) ⟨hlen, bs'.map Value.bool, ep, bls_vals bs', he'⟩, rfl, ?_⟩
  rw [hsame]
  exact q _ (I.hok.fresh (Nat.le_succ _))
def sortedBF (m : Bool) : List D → Sto → ER := fun ds O => match ds with
  | [d] => (match listR d O with | some xs => (match boolsD xs with | some bs => mkL m ((sortB bs).map D.bl) O | none => .bad) | none => .bad)
  | _ => .bad
theorem s_sortedB (m : Bool) : SatC C W (rSortedB C.K) (sortedBF m) := by
  intro g H O R ds vs s σ Q h
  unfold sortedBF at h
  split at h
  · rename_i d
    obtain ⟨v, rfl, sv⟩ := shrL_one s
    split at h
    · rename_i xs ex
      obtain ⟨a, ws, rfl, h1, h2⟩ := listR_of R sv ex
      split at h
      · rename_i bs eb
        have := shrL_boolsD eb h2
        subst this
        exact ⟨a, bs, rfl, h1, fun p hp => new_lst R (shrL_bls _) h hp⟩
      · exact h.elim
    · exact h.elim
  · exact h.elim
theorem e_sortedB (m : Bool) (hK : X.K = C.K) (hm : X.mg "sorted" = none) (hg : Gl X "sorted") (ha : DA C X W (e :: es) fas)
    (he : starEach (e :: es) X.env = (false, eval e X.env) :: starEach es X.env := by rfl) (hpl : (backTo pos (starEach es X.env)).any (·.1) = false := by rfl) : DE C X W (.Call (.Name "sorted" p) (e :: es) [] pos) (callE (sortedBF m) fas) :=
  d_callB cr_sortedB (by rw [hK]; exact s_sortedB m) hg hm (by decide +kernel) ha (by decide) (by decide) he hpl
end
end Dn
set_option Elab.async false
set_option linter.all false
set_option maxRecDepth 100000
set_option maxHeartbeats 4000000
/-! list(a dict), its keys texts -/
namespace Dn
open PySem PySem.Spec PyProof.Rows L2
section
variable {C : Ctx} {X : Cx} {W : WX} {e : Expr} {es : List Expr} {fas : Rho → Sto → Res (List D)} {p pos : Pos}
def listDF (m : Bool) : List D → Sto → ER := fun ds O => match ds with
  | [d] => (match dicOf d O with | some (_, kvs) => (match strKeys kvs with | some ks => mkL m (ks.map D.str) O | none => .bad) | none => .bad)
  | _ => .bad
theorem s_listD (m : Bool) : SatC C W (fun xs H Q => ∃ (a : Addr) (kvs : List (Key × V)), xs = [.ref a] ∧ Rd H a (.dK kvs) ∧ ∀ p, H p = none → Q (.ref p) (upd H p (.lst (kvs.map fun kv => kV kv.1)))) (listDF m) := by
  intro g H O R ds vs s σ Q h
  unfold listDF at h
  split at h
  · rename_i d
    obtain ⟨v, rfl, sv⟩ := shrL_one s
    split at h
    · rename_i l kvs eq
      obtain ⟨rfl, _, _, ws, h2, h3⟩ := dicOf_of R sv eq
      split at h
      · rename_i ks ek
        refine ⟨_, ws, rfl, .inl h2, fun p hp => ?_⟩
        have e : (ws.map fun kv => kV kv.1) = (ks.map mkS).map V.str := by
          have := congrArg (List.map kV) (shrK_strKeys ek h3)
          rw [List.map_map, List.map_map] at this
          exact this
        rw [e]
        exact new_lst R (strs_shrL _) h hp
      · exact h.elim
    · exact h.elim
  · exact h.elim
theorem e_listD (m : Bool) (hK : X.K = C.K) (hc : X.calm = true) (hm : X.mg "list" = none) (hg : Gl X "list") (ha : DA C X W (e :: es) fas)
    (he : starEach (e :: es) X.env = (false, eval e X.env) :: starEach es X.env := by rfl) (hpl : (backTo pos (starEach es X.env)).any (·.1) = false := by rfl) : DE C X W (.Call (.Name "list" p) (e :: es) [] pos) (callE (listDF m) fas) :=
  d_callTy (call_listD hc) (s_listD m) hg hm (by decide +kernel) ha (by decide) (by decide) he hpl
end
end Dn
set_option Elab.async false
set_option linter.all false
set_option maxRecDepth 100000
set_option maxHeartbeats 4000000
/-! an error whose context is None; try: .. except X: raise Y() from None -/
namespace Dn
open PySem PySem.Spec PyProof.Rows L2
section
variable {C : Ctx} {X : Cx} {W : WX} {P : Program} {w : World} {K : PySem.W.Frag} {mg : Str → Option Value} {base : Heap} {x : Str} {k np : Nat} {fn : Fn} {p pos pos' : Pos} {e : Expr} {es : List Expr} {fas : Rho → Sto → Res (List D)}
theorem fn_okN {qual : Str} {st : Stmt} {f : Addr} {fd : FuncData} {N ps : List Str} {B : DS0} (F : Fun K x qual st f fd) (S : FnScope N ps (defScope st))
    (h : ∀ (cdv : Value) (A : Around) (outer : List Env) (s : Shared) (H : Hp) (E : XK), Room k (A.deeper (envOfC qual (defScope st) s.heap.objs.size f cdv)) →
      DSs C (cxOf (L2N.CX P w) P w K mg base N qual (defScope st) f cdv A outer s H E) (fun cv dx _ H' => E cv dx H') (defBody st) B) :
    FnOk P w K mg base (L2N.CX P w) (k + 1) f fd ps (spD C ps.length (runFn N.length B)) := by
  obtain ⟨oc, od, kV, doc, pm, an, cdv, ct, osl, rfl, lk, hcd⟩ := F.ex
  refine fn_of lk hcd S (fun vs H Q E h => ?_) (fun A outer s H vs Q E hr hsp => ?_)
  · obtain ⟨g, O, ds, h1, _, h2, _⟩ := h
    rw [shrL_len h2, h1]
  · obtain ⟨t, ht, hs⟩ := (h cdv A outer s H E hr).ex
    obtain ⟨g, O, ds, h1, R, s1, q⟩ := hsp
    refine ⟨t, ht, hs g _ H _ O R (rep_start s1) _ ?_⟩
    unfold runFn at q
    cases e : B (ds.map some ++ List.replicate (N.length - ds.length) none) O with
    | nx r O' => rw [e] at q; exact fun σ' g' H' e1 e2 e3 => q .non g' H' e1 e2 rfl
    | ret d O' => rw [e] at q; exact q
    | bk r O' => rw [e] at q; exact q.elim
    | ct r O' => rw [e] at q; exact q.elim
    | exc er r O' => rw [e] at q; exact fun cv dx σ' g' H' e1 e2 e3 e4 => q cv dx g' H' e1 e2 e4
    | bad => rw [e] at q; exact q
/-- a global def that keeps its promise, its errors with no context -/
structure GN (P : Program) (w : World) (K : PySem.W.Frag) (mg : Str → Option Value) (base : Heap) (C : Ctx) (x : Str) (k np : Nat) (fn : Fn) : Prop where
  ex : ∃ f fd ps, ps.length = np ∧ FnOk P w K mg base (L2N.CX P w) k f fd ps (spD C np fn) ∧ mg x = some (.ref f) ∧ PySem.W.keepIn K (.ref f) = true ∧ Binds K fd ps []
theorem GN.close (h : GN P w K mg base C x k np fn) : GN P w K mg base C x k np (closeFn fn) := by
  obtain ⟨f, fd, ps, h1, F, h3⟩ := h.ex
  refine ⟨f, fd, ps, h1, F.imp fun vs H Q E ⟨g, O, ds, h4, R, s, q⟩ => ?_, h3⟩
  obtain ⟨R', s', q'⟩ := close_post R s q
  exact ⟨_, [], ds, h4, R', s', q'⟩
theorem GN.mk' {st : Stmt} {N ps : List Str} {B : DS0} (R : RawF K mg x st ps) (S : FnScope N ps (defScope st))
    (h : ∀ (f : Addr) (cdv : Value) (A : Around) (outer : List Env) (s : Shared) (H : Hp) (E : XK), Room k (A.deeper (envOfC x (defScope st) s.heap.objs.size f cdv)) →
      DSs C (cxOf (L2N.CX P w) P w K mg base N x (defScope st) f cdv A outer s H E) (fun cv dx _ H' => E cv dx H') (defBody st) B) : GN P w K mg base C x (k + 1) ps.length (runFn N.length B) := by
  obtain ⟨f, fd, F, hm, hb⟩ := R.ex
  exact ⟨f, fd, ps, rfl, fn_okN F S (h f), hm, F.kp, hb⟩
theorem takesN_cx {N : List Str} {qual : Str} {scope : Scope} {f : Addr} {cd : Value} {A : Around} {outer : List Env} {s : Shared} {H : Hp} {E : XK} :
    L2N.Takes (cxOf (L2N.CX P w) P w K mg base N qual scope f cd A outer s H E) (fun cv dx _ H' => E cv dx H') := L2N.takes_of rfl rfl rfl rfl
theorem d_callN (G1 : GN X.prog X.w X.K X.mg X.base C x k np fn) (hr : Room k X.A) (tk : L2N.Takes X W) (hg : Gl X x) (ha : DA C X W (e :: es) fas)
    (hdb : (x == ("__debug__" : Str)) = false := by decide) (he : starEach (e :: es) X.env = (false, eval e X.env) :: starEach es X.env := by rfl) (hpl : (backTo pos (starEach es X.env)).any (·.1) = false := by rfl) :
    DE C X W (.Call (.Name x p) (e :: es) [] pos) (fnE np fn fas) := by
  obtain ⟨f, fd, ps, h1, F, hm, hk, hb⟩ := G1.ex
  obtain ⟨_, pa, sa⟩ := ha.ex
  exact ⟨_, pe_callS F hr hg hm hk hb (fun σ => L2N.passAt tk σ) pa hdb he hpl, sat_fn sa⟩
variable {A : Addr} {bmB : List Value} {B newId initId : String}
theorem pmkN_own0 (F : ExcBaseFacts B newId initId bmB) (q : PySem.W.excIn X.K A bmB newId = true) (gC : X.mg x = some (.ref A)) (kC : PySem.W.keepIn X.K (.ref A) = true) (r : Raises X (.ref A)) (hg : Gl X x)
    (hdb : (x == ("__debug__" : Str)) = false := by decide) : L2H.PMk5 X (.Call (.Name x p) [] [] pos) (fun _ H Q => Q (.ref A) none H) := by
  intro pins s σ H Q I h
  refine wpAny_Call_Name_kw (ld_glob I hg gC ?_ hdb)
  refine PySem.W.callWith_K0 I.kIn kC ?_
  obtain ⟨_, _, _, _, _, _, _, _, _, _, _, _, _, _, _, _, _, hObj, hSpace, noInit, hTail⟩ := exc_obj I.kIn q
  refine wpAny_call_exc_subT F hTail hObj hSpace noInit (fun h' e hm => ?_) (by show 0 ≤ sizeLine; exact Nat.zero_le _)
  exact L2H.mk_of5 I hm r h (I.hok.gone hm.new)
theorem s_raise0N (i : Nat) (hc : X.calm = true) (tk : L2N.Takes X W) (hK : X.K = C.K) (he : C.ec i = some A) (F : ExcF C.K A) (gC : X.mg x = some (.ref A)) (hg : Gl X x := by rfl)
    (hdb : (x == ("__debug__" : Str)) = false := by decide) : DS C X W (.Raise (some (.Call (.Name x p) [] [] pos)) none pos') (raiseS i) :=
  ⟨_, L2N.ps_raise hc tk (pmkN_own0 PySem.F.excBase_ValueError (hK ▸ F.q) gC (hK ▸ F.keep) (raises_own (hK ▸ F.sub) (hK ▸ F.ty)) hg hdb).pmk, fun g σ H r O R S E h => by
    exact h _ _ _ _ _ (Ext.refl R) R S ⟨A, he, rfl, .inl ⟨rfl, rfl⟩⟩⟩
/-- try: .. except X: raise Y() from None -/
def tryFS (i y : Nat) (f : DS0) : DS0 := fun r O => match f r O with
  | .exc e r1 O1 => if e.cls = i then .exc ⟨y, []⟩ r1 O1 else .exc e r1 O1
  | z => z
theorem s_tryFrom (i y : Nat) {c : Value} {np cpos pos1 pos2 : Pos} {j : Nat} {x2 : Str} {body : List Stmt} {f : DS0} (hs : X.stack = X.env :: X.outer) (hf : X.env.frame = some X.env.locals) (hK : X.K = C.K) (hc : Names X x c) (tk : Takes X W)
    (hpa : ∀ hd : Option Value, PassesOwnAt (model X.prog X.w) (X.A.mark hd) X.A X.env X.xe)
    (hm : ∀ j A', C.ec j = some A' → PySem.W.exmOne C.K (.ref A') c = some (decide (j = i)))
    (he : C.ec y = some A) (F : ExcF C.K A) (gC : X.mg x2 = some (.ref A)) 
    (hb : ∀ (W' : WX) (pn : List (Addr × Obj)) (xe : Value → Shared → Prop), L2N.Takes (X.tr pn xe) W' → PassesOwn (model X.prog X.w) X.A X.env xe → DSs C (X.tr pn xe) W' body f)
    (hg : Gl X x2 := by rfl) (hdb : (x2 == ("__debug__" : Str)) = false := by decide) :
    DS C X W (.Try body [.ExceptHandler (some (.Name x np)) none [.Raise (some (.Call (.Name x2 p) [] [] pos1)) (some (.Constant .none j cpos)) pos2] pos'] [] [] pos) (tryFS i y f) :=
  ⟨_, L2H.ps_try_onlyX (tb := fun W' => tOf C W' f) (ts := fun _ _ _ => fun _ σ H => W (.ref A) none σ H) (Wout := W) hs hf hc hpa tk (fun W' pn xe t _ p => pss_of (hb W' pn xe t p))
    (fun a oe cls d pn _ _ tk2 hot => pss_one (L2H.ps_raiseHN (t := fun _ H Q => Q (.ref A) none H) hot tk2 (pmkN_own0 (X := L2H.suiteX X a ((a, oe) :: pn)) PySem.F.excBase_ValueError (hK ▸ F.q) gC (hK ▸ F.keep) (raises_own (hK ▸ F.sub) (hK ▸ F.ty)) hg hdb))), fun g σ H r O R S E q => by
    refine ⟨g, r, O, R, S, ?_⟩
    unfold tryFS at q
    cases z : f r O with
    | nx r1 O1 => rw [z] at q; exact q
    | ret d O1 => rw [z] at q; exact q
    | bk r1 O1 => rw [z] at q; exact q
    | ct r1 O1 => rw [z] at q; exact q
    | bad => rw [z] at q; exact q
    | exc e r1 O1 =>
      rw [z] at q
      intro cv dx σ' g' H' ex R' S' er
      obtain ⟨A', h1, rfl, h3⟩ := er
      dsimp only at q
      refine ⟨decide (e.cls = i), by rw [hK]; exact hm _ _ h1, fun hb a _ => ?_, fun hb => ?_⟩
      · simp only [decide_eq_true_eq] at hb
        rw [if_pos hb] at q
        exact q _ _ _ _ _ ex R' S' ⟨A, he, rfl, .inl ⟨rfl, rfl⟩⟩
      · simp only [decide_eq_false_iff_not] at hb
        rw [if_neg hb] at q
        exact q _ _ _ _ _ ex R' S' ⟨A', h1, rfl, h3⟩⟩
end
end Dn
set_option Elab.async false
set_option linter.all false
set_option maxRecDepth 100000
set_option maxHeartbeats 4000000
/-! try: .. except X as e: y = .. (asking e's class) -/
namespace L2
open PySem PySem.Spec PyProof.Rows
/-- isinstance(e, c), e the exception that the suite holds, with or without a dict -/
def rIsX (K : PySem.W.Frag) (a : Addr) (cls : Value) (d : Option Addr) : List V → Hp → VK → Prop := fun xs H Q => ∃ (D : Addr) (c : V) (cv : Value) (b : Bool), cls = .ref D ∧ ExcC K D ∧ xs = [.ref a, c] ∧ (∀ u, RelV c u → u = cv) ∧ PySem.W.kitOne K (.ref D) cv = some b ∧
  (∀ dd, d = some dd → ∃ vs, H dd = some (.xd vs)) ∧ Q (.bl b) H
theorem call_isX {X : Cx} {a : Addr} {oe : Obj} {cls : Value} {d : Option Addr} {pn : List (Addr × Obj)} (hz : Zc cls d oe) (hf : ∃ vs, oe.data = .fields vs) : CallR (X.suite a ((a, oe) :: pn)) (.builtin "isinstance") (rIsX X.K a cls d) := by
  intro pins s σ H xs us Q I r h
  obtain ⟨D, c, cv, b, rfl, C, rfl, hcv, e, hd, q⟩ := h
  cases r with
  | cons rx rr =>
    cases rr with
    | cons rt rr =>
      cases rr
      cases rx
      have ec := hcv _ rt
      subst ec
      obtain ⟨hget, _⟩ := I.pin (a, oe) (List.mem_append.mpr (.inl List.mem_cons_self))
      obtain ⟨vs, hv⟩ := hf
      have hcl : (PySem.W.clsIn X.K D).isSome = true := by
        obtain ⟨cd, hc, _⟩ := PySem.W.any_some C.hd
        rw [hc]; rfl
      have J : ∃ od, PySem.W.InstAt s.heap a oe D od := by
        cases d with
        | none => exact ⟨none, hget, hz.1, by unfold PySem.W.notCls; rw [hv] <;> rfl, by rw [hz.2]; trivial⟩
        | some dd =>
          obtain ⟨fs, hH⟩ := hd dd rfl
          have hx : ObjOk X.prog X.w H s.heap dd (.xd fs) := I.hok dd _ hH
          obtain ⟨mA, hns, hr⟩ := hx
          obtain ⟨od, ho, hl⟩ := lookIn_ns hns
          exact ⟨some od, hget, hz.1, by unfold PySem.W.notCls; rw [hv] <;> rfl, by rw [hz.2]; exact ho⟩
      obtain ⟨od, J⟩ := J
      exact PySem.W.kia_one (PySem.W.kitx_exc hcl C.hg C.hk C.hs C.ha C.hn C.ht C.hm) I.kIn J e (fun z => nomatch z) fun tk => ⟨.bl b, H, I.kept (t' := tk) fun _ _ z => z, rfl, q⟩
end L2
namespace Dn
open PySem PySem.Spec PyProof.Rows L2
section
variable {C : Ctx} {X : Cx} {W : WX}
/-- what the suite knows: e stands in its slot; its dict, if it has one, is a dict of fields -/
def Knows (slot : Nat) (a : Addr) (d : Option Addr) (σ : L2.St) (H : Hp) : Prop := σ[slot]? = some (some (.ref a)) ∧ ∀ dd, d = some dd → ∃ vs, H dd = some (.xd vs)
/-- a reading in the suite asks no more than the pure function, the error being of class j -/
def SatJ (C : Ctx) (slot : Nat) (te : Addr → Value → Option Addr → TE) (f : Nat → DE0) : Prop :=
  ∀ j A', C.ec j = some A' → ∀ a d g σ H r O, RepO C g H O → RepS C g σ r → Knows slot a d σ H → ∀ Q, Post C noW σ g H (f j r O) Q → te a (.ref A') d σ H Q
def suitS (slot y : Nat) (f : Nat → DE0) (fr body : DS0) : DS0 := fun r O => match body r O with
  | .exc e r1 O1 => if slot < r1.length then (match consS (setS y (f e.cls)) fr (r1.set slot none) O1 with | .nx r2 O2 => .nx (r2.set slot none) O2 | .ret d O2 => .ret d O2 | _ => .bad) else .bad
  | z => z
theorem s_tryAll (slot y : Nat) {c : Value} {x en : Str} {np : Pos} {b₀ : Stmt} {body rest : List Stmt} {pos pos' : Pos} {fb fr : DS0} {f : Nat → DE0} {te : Addr → Value → Option Addr → TE} (hs : X.stack = X.env :: X.outer) (hf : X.env.frame = some X.env.locals) (hN : X.N.Nodup) (hK : X.K = C.K) (hc : Names X x c) (tk : Takes X W)
    (hm : ∀ j A', C.ec j = some A' → PySem.W.exmOne C.K (.ref A') c = some true)
    (hb : ∀ (W' : WX) (pn : List (Addr × Obj)) (xe : Value → Shared → Prop), Takes (X.tr pn xe) W' → PassesOwn (model X.prog X.w) X.A X.env xe → DSs C (X.tr pn xe) W' body fb)
    (h0 : ∀ (a : Addr) (oe : Obj) (cls : Value) (d : Option Addr) (pn : List (Addr × Obj)), Zc cls d oe → (∃ vs, oe.data = .fields vs) → PS (X.suite a ((a, oe) :: pn)) b₀ (tAsg (te a cls d) (gName y)))
    (hj : SatJ C slot te f)
    (hr : ∀ (a : Addr) (pn : List (Addr × Obj)), DSs C (X.suite a pn) noW rest fr)
    (hi : X.N[slot]? = some en := by rfl) (hln : X.env.kindOf en = some .local := by rfl) :
    DS C X W (.Try body [.ExceptHandler (some (.Name x np)) (some en) (b₀ :: rest) pos'] [] [] pos) (suitS slot y f fr fb) :=
  ⟨_, ps_try_as (i := slot) (tb := fun W' => tOf C W' fb) (ts := fun a cls d => tSeq (tAsg (te a cls d) (gName y)) (tOf C noW fr)) (Wout := W) hs hf hN hi hln hc tk (fun W' pn xe t p => pss_of (hb W' pn xe t p)) (fun a oe cls d pn hz hff => pss_cons (h0 a oe cls d pn hz hff) (pss_of (hr a _))), fun g σ H r O R S E q => by
    refine ⟨g, r, O, R, S, ?_⟩
    unfold suitS at q
    cases z : fb r O with
    | nx r1 O1 => rw [z] at q; exact q
    | ret d O1 => rw [z] at q; exact q
    | bk r1 O1 => rw [z] at q; exact q
    | ct r1 O1 => rw [z] at q; exact q
    | bad => rw [z] at q; exact q
    | exc e r1 O1 =>
      rw [z] at q
      intro cv dx σ' g' H' ex R' S' er
      obtain ⟨A', h1, rfl, h3⟩ := er
      refine ⟨true, by rw [hK]; exact hm _ _ h1, fun _ a _ => ?_, fun hb => nomatch hb⟩
      dsimp only at q
      split at q
      · rename_i hlt
        have kn : Knows slot a dx (σ'.set slot (some (.ref a))) H' := by
          refine ⟨by rw [List.getElem?_set_self (by rw [S'.len]; exact hlt)], fun dd hd => ?_⟩
          rcases h3 with ⟨_, h4⟩ | ⟨dd', vs, h4, _, h5, h6⟩
          · rw [h4] at hd; cases hd
          · rw [h4] at hd; cases hd; exact ⟨vs, h5⟩
        refine hj e.cls A' h1 a dx g' (σ'.set slot (some (.ref a))) H' (r1.set slot none) O1 R' S'.over kn _ ?_
        unfold consS setS at q
        cases zf : f e.cls (r1.set slot none) O1 with
        | bad => rw [zf] at q; exact q.elim
        | exc e2 O2 => rw [zf] at q; exact q.elim
        | ok d2 O2 =>
          rw [zf] at q
          intro v g2 H2 e2 R2 s2
          refine ⟨g2, (r1.set slot none).set y (some d2), O2, R2, (S'.over.mono e2.le).set s2, ?_⟩
          dsimp only [Res.bindS, SR.bind] at q
          cases zr : fr ((r1.set slot none).set y (some d2)) O2 with
          | nx r3 O3 => 
            rw [zr] at q
            exact fun σ3 g3 H3 e3 R3 S3 => q _ g3 H3 ((ex.trans e2).trans e3) R3 S3.unset2
          | ret d3 O3 =>
            rw [zr] at q
            exact fun v3 g3 H3 e3 R3 s3 => q v3 g3 H3 ((ex.trans e2).trans e3) R3 s3
          | bk r3 O3 => rw [zr] at q; exact q.elim
          | ct r3 O3 => rw [zr] at q; exact q.elim
          | exc e3 r3 O3 => rw [zr] at q; exact q.elim
          | bad => rw [zr] at q; exact q.elim
      · exact q.elim⟩
/-! [isinstance(e, X1), ..] -/
/-- a row of readings that tells truths -/
def IsL (C : Ctx) (slot : Nat) (ta : Addr → Value → Option Addr → TA) (is : List Nat) : Prop := ∀ j A', C.ec j = some A' → ∀ a d σ H, Knows slot a d σ H → ∀ Q : List V → Hp → Prop, Q (is.map fun i => V.bl (decide (j = i))) H → ta a (.ref A') d σ H Q
def isA (is : List Nat) (j : Nat) : List D := is.map fun i => D.bl (decide (j = i))
/-- what is known of an own error's class that isinstance asks -/
structure IsF (C : Ctx) (i : Nat) (cv : Value) : Prop where
  k : ∀ j A', C.ec j = some A' → ExcC C.K A' ∧ PySem.W.kitOne C.K (.ref A') cv = some (decide (j = i))
theorem isl_nil {slot : Nat} : IsL C slot (fun _ _ _ => tNil) [] := fun j A' _ a d σ H _ Q q => q
theorem isl_cons {slot i : Nat} {is : List Nat} {cv : Value} {v : V} {ta : Addr → Value → Option Addr → TA} (F : IsF C i cv) (hv : ∀ u, RelV v u → u = cv) (h : IsL C slot ta is) :
    IsL C slot (fun a cls d => tCons (tCB (rIsX C.K a cls d) (tCons (tVar slot) (tCons (tC v) tNil))) (ta a cls d)) (i :: is) := fun j A' hj a d σ H kn Q q => by
  obtain ⟨f1, f2⟩ := F.k j A' hj
  exact ⟨.ref a, kn.1, A', v, cv, _, rfl, f1, rfl, hv, f2, kn.2, h j A' hj a d σ H kn _ q⟩
def lstJ (m : Bool) (is : List Nat) (j : Nat) : DE0 := fun _ O => mkL m (isA is j) O
theorem satj_lst {slot : Nat} (m : Bool) {ta : Addr → Value → Option Addr → TA} {is : List Nat} (hl : is.length ≤ 100) (h : IsL C slot ta is) : SatJ C slot (fun a cls d => tLst (ta a cls d)) (lstJ m is) := by
  intro j A' hj a d g σ H r O R S kn Q q
  refine h j A' hj a d σ H kn _ ⟨?_, fun p hp => ?_⟩
  · have : sizeLine = 16777216 := by decide
    rw [List.length_map, this]; omega
  · refine new_lst R (ds := isA is j) ?_ q hp
    unfold isA
    clear h hl q
    induction is with
    | nil => exact (by simp [ShrL])
    | cons i is ih =>
      simp only [List.map_cons, ShrL]
      exact ⟨_, _, rfl, rfl, ih⟩
theorem relv_ref {A : Addr} : ∀ u, RelV (.ref A) u → u = .ref A := fun u r => by cases r; rfl
theorem pe_isX {slot : Nat} {a : Addr} {oe : Obj} {cls : Value} {d : Option Addr} {pn : List (Addr × Obj)} {en xn : Str} {p ep xp pos : Pos} {cA : Addr} (hK : X.K = C.K) (hz : Zc cls d oe) (hff : ∃ vs, oe.data = .fields vs) (hm : X.mg "isinstance" = none)
    (hv : PE (X.suite a ((a, oe) :: pn)) (.Name en ep) (tVar slot)) (hgx : Gl X xn) (hmx : X.mg xn = some (.ref cA)) (hdx : (xn == ("__debug__" : Str)) = false := by decide) (hg : Gl X "isinstance" := by rfl)
    (hs1 : starEach [.Name xn xp] X.env = (false, eval (.Name xn xp) X.env) :: starEach [] X.env := by rfl)
    (hs2 : starEach [.Name en ep, .Name xn xp] X.env = (false, eval (.Name en ep) X.env) :: starEach [.Name xn xp] X.env := by rfl) (hpl : (backTo pos (starEach [.Name xn xp] X.env)).any (·.1) = false := by rfl) :
    PE (X.suite a ((a, oe) :: pn)) (.Call (.Name "isinstance" p) [.Name en ep, .Name xn xp] [] pos) (tCB (rIsX C.K a cls d) (tCons (tVar slot) (tCons (tC (.ref cA)) tNil))) := by
  have := call_isX (X := X) (a := a) (oe := oe) (cls := cls) (d := d) (pn := pn) hz hff
  rw [hK] at this
  exact pe_callB (X := X.suite a ((a, oe) :: pn)) this hg hm (by decide +kernel) (pa_cons hv (pa_cons (pe_glob (X := X.suite a ((a, oe) :: pn)) (v := .ref cA) hgx hmx rfl hdx) pa_nil hs1) hs2) (by decide) (by decide) hs2 hpl
end
end Dn
set_option Elab.async false
set_option linter.all false
set_option maxRecDepth 100000
set_option maxHeartbeats 4000000
/-! except X as e: y = f(e), f a def that asks e's class -/
namespace L2
open PySem PySem.Spec PyProof.Rows
/-- isinstance(e, c), e the error that stands beside -/
theorem call_isP {X : Cx} {a : Addr} {oe : Obj} {cls : Value} {d : Option Addr} (hp : (a, oe) ∈ X.pn) (hz : Zc cls d oe) (hf : ∃ vs, oe.data = .fields vs) : CallR X (.builtin "isinstance") (rIsX X.K a cls d) := by
  intro pins s σ H xs us Q I r h
  obtain ⟨D, c, cv, b, rfl, C, rfl, hcv, e, hd, q⟩ := h
  cases r with
  | cons rx rr =>
    cases rr with
    | cons rt rr =>
      cases rr
      cases rx
      have ec := hcv _ rt
      subst ec
      obtain ⟨hget, _⟩ := I.pin (a, oe) (List.mem_append.mpr (.inl hp))
      obtain ⟨vs, hv⟩ := hf
      have hcl : (PySem.W.clsIn X.K D).isSome = true := by
        obtain ⟨cd, hc, _⟩ := PySem.W.any_some C.hd
        rw [hc]; rfl
      have J : ∃ od, PySem.W.InstAt s.heap a oe D od := by
        cases d with
        | none => exact ⟨none, hget, hz.1, by unfold PySem.W.notCls; rw [hv] <;> rfl, by rw [hz.2]; trivial⟩
        | some dd =>
          obtain ⟨fs, hH⟩ := hd dd rfl
          have hx : ObjOk X.prog X.w H s.heap dd (.xd fs) := I.hok dd _ hH
          obtain ⟨mA, hns, hr⟩ := hx
          obtain ⟨od, ho, hl⟩ := lookIn_ns hns
          exact ⟨some od, hget, hz.1, by unfold PySem.W.notCls; rw [hv] <;> rfl, by rw [hz.2]; exact ho⟩
      obtain ⟨od, J⟩ := J
      exact PySem.W.kia_one (PySem.W.kitx_exc hcl C.hg C.hk C.hs C.ha C.hn C.ht C.hm) I.kIn J e (fun z => nomatch z) fun tk => ⟨.bl b, H, I.kept (t' := tk) fun _ _ z => z, rfl, q⟩
end L2
namespace Dn
open PySem PySem.Spec PyProof.Rows L2
abbrev noCX : CXT := fun _ _ _ _ _ _ => False
abbrev noXK : XK := fun _ _ _ => False
/-- a def's promise while the object p stands beside -/
structure FnP (P : Program) (w : World) (K : PySem.W.Frag) (mg : Str → Option Value) (base : Heap) (k : Nat) (f : Addr) (fd : FuncData) (ps : List Str) (p : Addr × Obj) (sp : List V → Hp → VK → Prop) : Prop where
  len : ∀ vs H Q, sp vs H Q → vs.length = ps.length
  run : ∀ (A : Around) (outer : List Env) (s : Shared) (H : Hp) (us : List Value) (vs : List V) (Q : VK), L2H.RoomH k A → L2H.PinOk outer H s p → Env0 P w K mg base A outer s H → BindsTo s fd ⟨us, []⟩ (ps.zip us) → Vals vs us → sp vs H Q →
    codeAny (model P w) A (.call (.ref f) ⟨us, []⟩) (CR noCX outer P w H s Q noXK) s
section
variable {P : Program} {w : World} {K : PySem.W.Frag} {mg : Str → Option Value} {base : Heap}
theorem fnp_of {k : Nat} {f : Addr} {name qual : Str} {st : Stmt} {fd : FuncData} {N ps : List Str} {p : Addr × Obj} {sp : List V → Hp → VK → Prop} (F : Fun K name qual st f fd) (S : FnScope N ps (defScope st)) (len : ∀ vs H Q, sp vs H Q → vs.length = ps.length)
    (hbody : ∀ (cdv : Value) (A : Around) (outer : List Env) (s : Shared) (H : Hp) (vs : List V) (Q : VK), sp vs H Q →
      ∃ t, PSs (L2H.cxH noCX P w K mg base N qual (defScope st) f cdv A outer s H noXK p) (defBody st) t ∧ t { nx := fun _ H' => Q .non H', rt := Q } (L2.start N vs) H) :
    FnP P w K mg base (k + 1) f fd ps p sp := by
  obtain ⟨oc, od, kV, doc, pm, an, cdv, ct, osl, rfl, lk, hcd⟩ := F.ex
  refine ⟨len, fun A outer s H us vs Q room pin en bnd rv hsp => ?_⟩
  have kin : K.In s.heap := en.mod.kin.keeps fun b o e => (en.bs b o e).1
  have nol : s.heap.NoLimit := en.mod.nolimit.keeps fun b o e => (en.bs b o e).1
  refine codeAny_call_function room.depth (kin _ _ lk) rfl S.co S.gen rfl (PySem.W.codeRec_of kin hcd) (bnd _ _ _ _ ?_)
  refine wpAny_newFunctionEnv_cells S.kind (fun y hy => ?_) fun env he s1 x => ?_
  · obtain ⟨n, v⟩ := y
    rcases S.par n (List.of_mem_zip hy).1 with q | q
    · exact .inl q
    · exact .inr ⟨q, PySem.W.cellsFrom_some _ _ _ (.inl q)⟩
  subst he
  refine ⟨nol.keeps x.toInCall.keep, codeAny_func ?_⟩
  obtain ⟨t, ht, hq⟩ := hbody cdv A outer s H vs Q hsp
  refine wpAny_mono (ht.run [] s1 (L2.start N vs) H _ (L2H.inv_startH S pin en (len _ _ _ hsp) rv x) hq) (fun fl s' hs => ?_) fun e s' hs => hs
  cases fl with
  | ret u =>
    obtain ⟨v, _, H', J, rv, q⟩ := hs
    exact ⟨v, H', J.os, J.bare, J.base, J.hok, rv, q⟩
  | next =>
    obtain ⟨_, H', J, q⟩ := hs
    exact ⟨V.non, H', J.os, J.bare, J.base, J.hok, rfl, q⟩
  | brk =>
    obtain ⟨_, _, _, q⟩ := hs
    exact q.elim
  | cont =>
    obtain ⟨_, _, _, q⟩ := hs
    exact q.elim
variable {X : Cx} {W : WX} {C : Ctx}
theorem pe_callP {p : Addr × Obj} {k : Nat} {f : Addr} {fd : FuncData} {ps : List Str} {sp : List V → Hp → VK → Prop} {x : Str} {q pos : Pos} {e : Expr} {es : List Expr} {t : TA} (F : FnP X.prog X.w X.K X.mg X.base k f fd ps p sp) (hr : L2H.RoomH k X.A) (hp : p ∈ X.pn)
    (hg : Gl X x) (hm : X.mg x = some (.ref f)) (hk : PySem.W.keepIn X.K (.ref f) = true) (hb : Binds X.K fd ps []) (ha : PA X (e :: es) t) (hdb : (x == ("__debug__" : Str)) = false := by decide)
    (he : starEach (e :: es) X.env = (false, eval e X.env) :: starEach es X.env := by rfl) (hpl : (backTo pos (starEach es X.env)).any (·.1) = false := by rfl) :
    PE X (.Call (.Name x q) (e :: es) [] pos) (fun σ H Q => t σ H fun vs H1 => sp vs H1 Q) := by
  refine ⟨fun pins s σ H Q I h => wpAny_Call_Name_kw (ld_glob I hg hm ?_ hdb)⟩
  refine PySem.W.callWith_K (h₀ := X.base) I.ok.mod.kin hk (thn (ha.run pos pins s σ H _ I h) fun us s1 ⟨vs, H1, I1, r, q⟩ => ⟨I1.kIn, ?_⟩) he hpl
  have hl : us.length = ps.length := by rw [← r.length]; exact F.len _ _ _ q
  have b := hb s1 us I1.kIn (by rw [List.append_nil]; exact hl)
  rw [List.append_nil] at b
  have P1 := I1.pin p (List.mem_append_left _ hp)
  have pin : L2H.PinOk X.stack H1 s1 p := ⟨P1.1, P1.2.1, fun z => (List.mem_cons.mp (I1.stkSub p.1 z)).elim P1.2.2.1 P1.2.2.2.1, P1.2.2.2.2⟩
  refine wpAny_call (codeAny_mono (F.run X.A X.stack s1 H1 us vs Q hr pin I1.env0 b r q) fun rr s' hq => ?_)
  cases rr with
  | error e => exact hq.elim
  | ok fl =>
    cases fl with
    | ret u => exact I1.after hq
    | next => exact hq.elim
    | brk => exact hq.elim
    | cont => exact hq.elim
/-! ### a def that tells the error's names -/
def spE (C : Ctx) (a : Addr) (cls : Value) (d : Option Addr) (nm : Nat → List Nat) : List V → Hp → VK → Prop := fun vs H Q => vs = [.ref a] ∧ ∃ j A', C.ec j = some A' ∧ cls = .ref A' ∧ (∀ dd, d = some dd → ∃ vs, H dd = some (.xd vs)) ∧ Q (.str (mkS (nm j))) H
/-- a text, if the error is of class i -/
def xt (i : Nat) (l : List Nat) (j : Nat) : List Nat := if j = i then l else []
theorem xt_len (i : Nat) (l : List Nat) (j : Nat) : (xt i l j).length ≤ l.length := by unfold xt; split <;> simp
def tIs (K : PySem.W.Frag) (a : Addr) (cls : Value) (d : Option Addr) (cv : V) : TT := fun σ H Q => tCB (rIsX K a cls d) (tCons (tVar 0) (tCons (tC cv) tNil)) σ H fun x H' => ∃ k, TruV K x H' k ∧ Q k H'
def tX (K : PySem.W.Frag) (a : Addr) (cls : Value) (d : Option Addr) (cA : Addr) (l : List Nat) : TE := tIf (tIs K a cls d (.ref cA)) (tC (.str (mkS l))) (tC (.str (mkS [])))
theorem tIs_ok {a : Addr} {d : Option Addr} {cv : V} {u : Value} {b : Bool} {A' : Addr} {σ : L2.St} {H : Hp} {Q : Bool → Hp → Prop} (E : ExcC K A') (hv : ∀ z, RelV cv z → z = u) (hk : PySem.W.kitOne K (.ref A') u = some b) (h0 : σ[0]? = some (some (.ref a))) (hd : ∀ dd, d = some dd → ∃ vs, H dd = some (.xd vs)) (q : Q b H) :
    tIs K a (.ref A') d cv σ H Q := ⟨.ref a, h0, A', cv, u, b, rfl, E, rfl, hv, hk, hd, b, rfl, q⟩
theorem tX_ok {a : Addr} {d : Option Addr} {cA A' : Addr} {i j : Nat} {l : List Nat} {σ : L2.St} {H : Hp} {Q : VK} (F : IsF C i (.ref cA)) (hj : C.ec j = some A') (h0 : σ[0]? = some (some (.ref a))) (hd : ∀ dd, d = some dd → ∃ vs, H dd = some (.xd vs)) (q : Q (.str (mkS (xt i l j))) H) :
    tX C.K a (.ref A') d cA l σ H Q := by
  obtain ⟨E, e⟩ := F.k j A' hj
  refine tIs_ok E relv_ref e h0 hd ?_
  unfold xt at q
  by_cases z : j = i
  · rw [if_pos z] at q
    rw [decide_eq_true z, if_pos rfl]; exact q
  · rw [if_neg z] at q
    rw [decide_eq_false z, if_neg Bool.false_ne_true]; exact q
section
variable {a : Addr} {oe : Obj} {cls : Value} {d : Option Addr}
/-- isinstance(e, c), e the parameter -/
theorem pe_isP {en xn : Str} {p ep xp pos : Pos} {cv : V} (hp : (a, oe) ∈ X.pn) (hz : Zc cls d oe) (hff : ∃ vs, oe.data = .fields vs) (hm : X.mg "isinstance" = none) (hv : PE X (.Name en ep) (tVar 0)) (hc : PE X (.Name xn xp) (tC cv)) (hg : Gl X "isinstance" := by rfl)
    (hs1 : starEach [.Name xn xp] X.env = (false, eval (.Name xn xp) X.env) :: starEach [] X.env := by rfl)
    (hs2 : starEach [.Name en ep, .Name xn xp] X.env = (false, eval (.Name en ep) X.env) :: starEach [.Name xn xp] X.env := by rfl) (hpl : (backTo pos (starEach [.Name xn xp] X.env)).any (·.1) = false := by rfl)
    (ht : ∀ whole, isTrue (.Call (.Name "isinstance" p) [.Name en ep, .Name xn xp] [] pos) X.env whole = (do let v ← whole; standAt (Expr.Call (.Name "isinstance" p) [.Name en ep, .Name xn xp] [] pos).pos; holding [v] (truthy v)) := by intro _; rfl) :
    PT X (.Call (.Name "isinstance" p) [.Name en ep, .Name xn xp] [] pos) (tIs X.K a cls d cv) :=
  pt_truth (pe_callB (call_isP hp hz hff) hg hm (by decide +kernel) (pa_cons hv (pa_cons hc pa_nil hs1) hs2) (by decide) (by decide) hs2 hpl) ht
/-- the text of one class, by the error's -/
theorem pe_x {c : Expr} {l : List Nat} {cA : Addr} {x y : Str} {j1 j2 : Nat} {p1 p2 pos : Pos} (hK : X.K = C.K) (hc : PT X c (tIs X.K a cls d (.ref cA))) (hx : x = ⟨l.toArray⟩ := by first | rfl | decide +kernel) (hy : y = ⟨([] : List Nat).toArray⟩ := by first | rfl | decide +kernel) :
    PE X (.IfExp c (.Constant (.str x) j1 p1) (.Constant (.str y) j2 p2) pos) (tX C.K a cls d cA l) := by
  subst hx; subst hy
  rw [hK] at hc
  exact pe_ifExp hc pe_str pe_str
/-- what a list of statements adds to the text told -/
def nmL (xs : List (Nat × List Nat)) (j : Nat) : List Nat := xs.flatMap fun p => xt p.1 p.2 j
structure NS (C : Ctx) (X : Cx) (a : Addr) (cls : Value) (d : Option Addr) (m : Nat) (body : List Stmt) (nm : List (Nat × List Nat)) : Prop where
  ex : ∃ t, PSs X body t ∧ ∀ j A', C.ec j = some A' → cls = .ref A' → ∀ (σ : L2.St) (H : Hp) (Q : VK) (acc : List Nat), 2 ≤ σ.length → σ[0]? = some (some (.ref a)) → σ[1]? = some (some (.str (mkS acc))) → (∀ dd, d = some dd → ∃ vs, H dd = some (.xd vs)) → acc.length ≤ m → Q (.str (mkS (acc ++ nmL nm j))) H →
    t { nx := fun _ H' => Q .non H', rt := Q } σ H
theorem rAddD_str {x y : List Nat} {H : Hp} {Q : VK} (hl : x.length + y.length ≤ 10000) (q : Q (.str (mkS (x ++ y))) H) : rAddD K (.str (mkS x)) (.str (mkS y)) H Q := by
  have hs : sizeLine = 16777216 := by decide
  refine .inr (.inl ⟨_, _, rfl, rfl, by rw [strlen, strlen, hs]; omega, ?_⟩)
  rw [mkS_app]; exact q
theorem ns_cons {m m' i1 i2 : Nat} {l1 l2 : List Nat} {c1 c2 : Addr} {x : Str} {e1 e2 e0 : Expr} {rest : List Stmt} {p1 p2 px spos : Pos} {nm : List (Nat × List Nat)} (F1 : IsF C i1 (.ref c1)) (F2 : IsF C i2 (.ref c2)) (hK : X.K = C.K) (hN : X.N.Nodup) (h0 : PE X e0 (tVar 1))
    (h1 : PE X e1 (tX C.K a cls d c1 l1)) (h2 : PE X e2 (tX C.K a cls d c2 l2)) (hr : NS C X a cls d m rest nm) (hm : m' + l1.length + l2.length ≤ m) (hm2 : m ≤ 10000) (hi : X.N[1]? = some x := by rfl) (hx : Loc X.env.scope x := by exact Or.inl rfl)
    (hs : swapsWith (.BinOp (.BinOp e0 .Add e1 p1) .Add e2 p2) (some (.Name x px)) spos.line X.env = pure false := by rfl) (hf : X.fn x = true ∨ X.env.scope.names.lookup x = some .local := by exact Or.inl rfl) :
    NS C X a cls d m' (.Assign [.Name x px] (.BinOp (.BinOp e0 .Add e1 p1) .Add e2 p2) spos :: rest) ((i1, l1) :: (i2, l2) :: nm) := by
  obtain ⟨t, pt, ht⟩ := hr.ex
  have ad := op_addD (X := X)
  rw [hK] at ad
  refine ⟨_, pss_cons (ps_set (i := 1) hN hi hx (pe_op ad (pe_op ad h0 h1) h2) hs hf) pt, fun j A' hj hc σ H Q acc hl k0 k1 kd ha q => ?_⟩
  subst hc
  have b1 := xt_len i1 l1 j
  have b2 := xt_len i2 l2 j
  refine ⟨_, k1, ?_⟩
  refine tX_ok F1 hj k0 kd ?_
  refine rAddD_str (by omega) ?_
  refine tX_ok F2 hj k0 kd ?_
  refine rAddD_str (by rw [List.length_append]; omega) ?_
  refine ht j A' hj rfl _ H Q (acc ++ xt i1 l1 j ++ xt i2 l2 j) (by simpa using hl) ?_ ?_ kd (by rw [List.length_append, List.length_append]; omega) (by
    have e : acc ++ nmL ((i1, l1) :: (i2, l2) :: nm) j = acc ++ xt i1 l1 j ++ xt i2 l2 j ++ nmL nm j := by simp [nmL, List.append_assoc]
    rw [← e]; exact q)
  · rw [List.getElem?_set_ne (by decide)]; exact k0
  · rw [List.getElem?_set_self (by omega)]
theorem ns_start {m : Nat} {x s : Str} {rest : List Stmt} {j0 : Nat} {p1 px spos : Pos} {nm : List (Nat × List Nat)} (hN : X.N.Nodup) (hr : NS C X a cls d m rest nm) (hse : s = ⟨([] : List Nat).toArray⟩ := by first | rfl | decide +kernel) (hi : X.N[1]? = some x := by rfl) (hx : Loc X.env.scope x := by exact Or.inl rfl)
    (hs : swapsWith (.Constant (.str s) j0 p1) (some (.Name x px)) spos.line X.env = pure false := by rfl) (hf : X.fn x = true ∨ X.env.scope.names.lookup x = some .local := by exact Or.inl rfl) :
    ∃ t, PSs X (.Assign [.Name x px] (.Constant (.str s) j0 p1) spos :: rest) t ∧ ∀ j A', C.ec j = some A' → cls = .ref A' → ∀ (σ : L2.St) (H : Hp) (Q : VK), 2 ≤ σ.length → σ[0]? = some (some (.ref a)) → (∀ dd, d = some dd → ∃ vs, H dd = some (.xd vs)) → Q (.str (mkS (nmL nm j))) H →
      t { nx := fun _ H' => Q .non H', rt := Q } σ H := by
  obtain ⟨t, pt, ht⟩ := hr.ex
  subst hse
  refine ⟨_, pss_cons (ps_set (i := 1) hN hi hx pe_str hs hf) pt, fun j A' hj hc σ H Q hl k0 kd q => ?_⟩
  refine ht j A' hj hc _ H Q [] (by simpa using hl) ?_ ?_ kd (Nat.zero_le _) q
  · rw [List.getElem?_set_ne (by decide)]; exact k0
  · rw [List.getElem?_set_self (by omega)]
/-- if not isinstance(e, ValueError): return ..; return text -/
theorem ns_end {m i : Nat} {cx : Value} {cv : V} {u : Value} {c e0 e1 : Expr} {te : TE} {p1 p2 p3 p4 : Pos} (F : IsF C i cx) (hK : X.K = C.K) (hc : PT X c (tIs X.K a cls d cv)) (hv : ∀ z, RelV cv z → z = u) (hu : ∀ j A', C.ec j = some A' → PySem.W.kitOne C.K (.ref A') u = some true) (h1 : PE X e1 te) (h0 : PE X e0 (tVar 1)) :
    NS C X a cls d m [.If (.UnaryOp .Not c p1) [.Return (some e1) p2] [] p3, .Return (some e0) p4] [] := by
  rw [hK] at hc
  refine ⟨_, pss_cons (ps_if (pt_not hc) (pss_one (ps_ret h1)) pss_nil) (pss_one (ps_ret h0)), fun j A' hj hcl σ H Q acc hl k0 k1 kd ha q => ?_⟩
  subst hcl
  refine tIs_ok (F.k j A' hj).1 hv (hu j A' hj) k0 kd ?_
  show (if (!true) = true then _ else _)
  rw [if_neg (by simp)]
  have e : acc ++ nmL [] j = acc := by simp [nmL]
  rw [e] at q
  exact ⟨_, k1, q⟩
end
theorem relv_ty {t : String} : ∀ z, RelV (.ty t) z → z = .type t := fun z r => r
/-- a def that tells the names of the error handed in -/
structure GX (P : Program) (w : World) (K : PySem.W.Frag) (mg : Str → Option Value) (base : Heap) (C : Ctx) (x : Str) (k : Nat) (nm : Nat → List Nat) : Prop where
  ex : ∃ f fd ps, mg x = some (.ref f) ∧ PySem.W.keepIn K (.ref f) = true ∧ Binds K fd ps [] ∧ ∀ (a : Addr) (oe : Obj) (cls : Value) (d : Option Addr), Zc cls d oe → (∃ vs, oe.data = .fields vs) → FnP P w K mg base k f fd ps (a, oe) (spE C a cls d nm)
theorem GX.mk' {x en yn : Str} {st : Stmt} {k : Nat} {nm : List (Nat × List Nat)} (R : RawF K mg x st [en]) (S : FnScope [en, yn] [en] (defScope st))
    (h : ∀ (f : Addr) (cdv : Value) (A : Around) (outer : List Env) (s : Shared) (H : Hp) (a : Addr) (oe : Obj) (cls : Value) (d : Option Addr), Zc cls d oe → (∃ vs, oe.data = .fields vs) →
      ∃ t, PSs (L2H.cxH noCX P w K mg base [en, yn] x (defScope st) f cdv A outer s H noXK (a, oe)) (defBody st) t ∧ ∀ j A', C.ec j = some A' → cls = .ref A' → ∀ (σ : L2.St) (H : Hp) (Q : VK), 2 ≤ σ.length → σ[0]? = some (some (.ref a)) → (∀ dd, d = some dd → ∃ vs, H dd = some (.xd vs)) → Q (.str (mkS (nmL nm j))) H →
        t { nx := fun _ H' => Q .non H', rt := Q } σ H) : GX P w K mg base C x (k + 1) (nmL nm) := by
  obtain ⟨f, fd, F, hm, hb⟩ := R.ex
  refine ⟨f, fd, [en], hm, F.kp, hb, fun a oe cls d hz hff => fnp_of F S (fun vs H Q hsp => by obtain ⟨rfl, _⟩ := hsp; rfl) fun cdv A outer s H vs Q hsp => ?_⟩
  obtain ⟨rfl, j, A', hj, hc, kd, q⟩ := hsp
  obtain ⟨t, pt, ht⟩ := h f cdv A outer s H a oe cls d hz hff
  exact ⟨t, pt, ht j A' hj hc _ H Q (by simp [L2.start]) rfl kd q⟩
def nmJ (nm : Nat → List Nat) (j : Nat) : DE0 := fun _ O => .ok (.str (nm j)) O
/-- try: .. except X as e: y = f(e) -/
theorem s_tryNames (slot y : Nat) {c : Value} {x en fx yn : Str} {np p1 p2 p3 p4 py : Pos} {body : List Stmt} {pos pos' : Pos} {fb : DS0} {k : Nat} {nm : Nat → List Nat} (hs : X.stack = X.env :: X.outer) (hf : X.env.frame = some X.env.locals) (hN : X.N.Nodup) (hK : X.K = C.K) (hc : Names X x c) (tk : Takes X W)
    (hm : ∀ j A', C.ec j = some A' → PySem.W.exmOne C.K (.ref A') c = some true)
    (hb : ∀ (W' : WX) (pn : List (Addr × Obj)) (xe : Value → Shared → Prop), Takes (X.tr pn xe) W' → PassesOwn (model X.prog X.w) X.A X.env xe → DSs C (X.tr pn xe) W' body fb)
    (G : GX X.prog X.w X.K X.mg X.base C fx k nm) (hr : Room k X.A) (hv : ∀ (a : Addr) (pn : List (Addr × Obj)), PE (X.suite a pn) (.Name en p2) (tVar slot)) (hg : Gl X fx := by rfl) (hdb : (fx == ("__debug__" : Str)) = false := by decide)
    (he : starEach [.Name en p2] X.env = (false, eval (.Name en p2) X.env) :: starEach [] X.env := by rfl) (hpl : (backTo p3 (starEach [] X.env)).any (·.1) = false := by rfl)
    (hyi : X.N[y]? = some yn := by rfl) (hyl : Loc X.env.scope yn := by exact Or.inl rfl) (hsw : swapsWith (.Call (.Name fx p1) [.Name en p2] [] p3) (some (.Name yn py)) p4.line X.env = pure false := by rfl) (hfn : X.fn yn = true ∨ X.env.scope.names.lookup yn = some .local := by exact Or.inl rfl)
    (hi : X.N[slot]? = some en := by rfl) (hln : X.env.kindOf en = some .local := by rfl) :
    DS C X W (.Try body [.ExceptHandler (some (.Name x np)) (some en) [.Assign [.Name yn py] (.Call (.Name fx p1) [.Name en p2] [] p3) p4] pos'] [] [] pos) (suitS slot y (nmJ nm) nilS fb) := by
  obtain ⟨f, fd, ps, g1, g2, g3, g4⟩ := G.ex
  refine s_tryAll (te := fun a cls d σ H Q => (tCons (tVar slot) tNil) σ H fun vs H1 => spE C a cls d nm vs H1 Q) slot y hs hf hN hK hc tk hm hb (fun a oe cls d pn hz hff => ?_) ?_ (fun a pn => ss_nil) hi hln
  · exact ps_set (X := X.suite a ((a, oe) :: pn)) hN hyi hyl (pe_callP (X := X.suite a ((a, oe) :: pn)) (g4 a oe cls d hz hff) ⟨hr.dp, hr.un⟩ List.mem_cons_self hg g1 g2 g3 (pa_cons (hv a _) pa_nil he) hdb he hpl) hsw hfn
  · intro j A' hj a d g σ H r O R S kn Q q
    exact ⟨.ref a, kn.1, rfl, j, A', hj, rfl, kn.2, Post.fin R rfl q⟩
end
end Dn
set_option Elab.async false
set_option linter.all false
set_option maxRecDepth 100000
set_option maxHeartbeats 4000000
/-! for k in d, [.. for k in d]: the dict is locked while its keys are walked -/
namespace Dn
open PySem PySem.Spec PyProof.Rows L2
section
variable {C : Ctx} {X : Cx} {W : WX} {o e f x : Expr} {fo : DE0} {p apos cpos pos pos' : Pos}
def keysL (kvs : List (DKey × D)) : List D := kvs.map fun q => keyB q.1
theorem keysL_len (kvs : List (DKey × D)) : (keysL kvs).length = kvs.length := by simp [keysL]
theorem shrK_key {K : PySem.W.Frag} {g : G} : ∀ {kvs : List (DKey × D)} {vs : List (Key × V)} {i : Nat} {d : D} {k : Key} {v : V}, ShrK K g kvs vs → (keysL kvs)[i]? = some d → vs[i]? = some (k, v) → ∀ g', Shr K g' d (kV k)
  | [], vs, i, d, k, v, h, h1, h2 => by simp [keysL] at h1
  | p :: kvs, vs, 0, d, k, v, h, h1, h2 => by
    simp only [ShrK] at h
    obtain ⟨v', r, rfl, s2, h3⟩ := h
    simp [keysL] at h1 h2
    obtain ⟨rfl, rfl⟩ := h2
    subst h1
    intro g'
    cases p.1 with
    | inl i => rfl
    | inr x => rfl
  | p :: kvs, vs, i + 1, d, k, v, h, h1, h2 => by
    simp only [ShrK] at h
    obtain ⟨v', r, rfl, s2, h3⟩ := h
    exact shrK_key (i := i) h3 (by simpa [keysL] using h1) (by simpa using h2)
open Classical in
noncomputable def kyK (t : TG0) (b : DS0) (l : Nat) (c : Cell) (kvs : List (DKey × D)) (r : Rho) : D → Sto → SR := fun d O1 => match d with
  | .ob l' => if l' = l ∧ O1[l]? = some c then forKL t b l c (keysL kvs) r O1 else .bad
  | _ => .bad
noncomputable def kyR (fo : DE0) (t : TG0) (b : DS0) (l : Nat) (kvs : List (DKey × D)) (r : Rho) (O : Sto) (u : HO) : SR :=
  openS l (.loc u kvs) kvs ((fo r (O.set l (.loc u kvs))).bindS r (kyK t b l (.loc u kvs) kvs r))
open Classical in
noncomputable def forKyS (fo : DE0) (t : TG0) (b : DS0) : DS0 := fun r O => match fo r O with
  | .ok (.ob l) _ => match O[l]? with
    | some (.dic kvs) => if h : ∃ x, ∀ u, kyR fo t b l kvs r O u = x then h.choose else .bad
    | _ => .bad
  | _ => .bad
theorem forKyS_eq {fo : DE0} {t : TG0} {b : DS0} {r : Rho} {O O' : Sto} {l : Nat} {kvs : List (DKey × D)} {x : SR} (h1 : fo r O = .ok (.ob l) O') (h2 : O[l]? = some (.dic kvs)) (h3 : ∀ u, kyR fo t b l kvs r O u = x) : forKyS fo t b r O = x := by
  unfold forKyS
  rw [h1]
  simp only [h2]
  have h : ∃ x, ∀ u, kyR fo t b l kvs r O u = x := ⟨x, h3⟩
  rw [dif_pos h]
  rw [← h.choose_spec (.own 0), h3]
theorem kyR_eq {fo : DE0} {t : TG0} {b : DS0} {l : Nat} {kvs : List (DKey × D)} {r : Rho} {O O1 : Sto} {u : HO} {x y : SR} (h1 : fo r (O.set l (.loc u kvs)) = .ok (.ob l) O1) (h2 : O1[l]? = some (.loc u kvs)) (h3 : forKL t b l (.loc u kvs) (keysL kvs) r O1 = y) (h4 : openS l (.loc u kvs) kvs y = x) : kyR fo t b l kvs r O u = x := by
  unfold kyR
  rw [h1]
  show openS l (.loc u kvs) kvs (kyK t b l (.loc u kvs) kvs r (.ob l) O1) = x
  unfold kyK
  dsimp only
  rw [if_pos ⟨rfl, h2⟩, h3, h4]
theorem s_forKy {tg : Expr} {body : List Stmt} {f : DS0} {own : List Nat} {t : TG0} (hp : PassesOwn (model X.prog X.w) X.A X.env X.xe) (hc : X.calm = true) (ho : DE C X W o fo) (hg : DG C X tg own t) (hb : DSs C X W body f)
    (hs : ∀ x, foldedSetIterable o X.env x = pure x := by intro _; rfl) :
    DS C X W (.For tg o body [] pos) (forKyS fo t f) :=
  let ⟨_, po, so⟩ := ho.ex; let ⟨_, q, u⟩ := hg.ex; let ⟨_, pb, sb⟩ := hb.ex
  ⟨_, ps_lock (ps_for hp hc (pi_keys po) q pb (hs := hs)), fun g0 σ0 H0 r0 O0 R0 S0 E h0 => by
    unfold forKyS at h0
    split at h0
    · rename_i l _ _
      split at h0
      · rename_i kvs hcell
        split at h0
        · rename_i hx
          have hl : l < g0.n := by rw [R0.n]; exact (List.getElem?_eq_some_iff.mp hcell).1
          obtain ⟨vs, hd, sk⟩ := R0.cell l _ hcell
          refine ⟨g0.θ l, .dK vs, hd, trivial, fun od => ?_⟩
          have h1 : PostS C W g0 H0 (kyR fo t f l kvs r0 O0 (.frz od (.dK vs))) E := by rw [hx.choose_spec]; exact h0
          unfold kyR at h1
          have h2 := open_post R0 hl hd sk h1
          have RL : RepO C g0 (upd H0 (g0.θ l) (.frz od (.dK vs))) (O0.set l (.loc (.frz od (.dK vs)) kvs)) := R0.set hl ⟨upd_same, od, vs, rfl, sk⟩
          show iKeys _ σ0 _ _
          refine so.seqS RL S0 h2 fun d O1 v g1 H1 e1 R1 S1 s1 h3 => ?_
          unfold kyK at h3
          split at h3
          · rename_i l'
            split at h3
            · rename_i hh
              obtain ⟨rfl, hO1⟩ := hh
              have s1 : v = .ref (g1.θ l') ∧ l' < g1.n := s1
              obtain ⟨rfl, hl1⟩ := s1
              obtain ⟨c1, _⟩ := R1.cell l' _ hO1
              refine ⟨g1.θ l', od, rfl, .inl ⟨vs, c1, ?_⟩⟩
              have eqθ : g1.θ l' = g0.θ l' := e1.le.θ l' hl
              refine ⟨fun i m σ H => m = (keysL kvs).length - i ∧ i ≤ (keysL kvs).length ∧ ∃ g r O, GLe g1 g ∧ RepO C g H O ∧ RepS C g σ r ∧ PostS C W g H (forKL t f l' (.loc (.frz od (.dK vs)) kvs) ((keysL kvs).drop i) r O) (lockD (g0.θ l') (.frz od (.dK vs)) (.dK vs) E), ⟨_, rfl, Nat.zero_le _, g1, r0, O1, GLe.refl _, R1, S1, h3⟩, ?_⟩
              have hlen : vs.length = (keysL kvs).length := by rw [shrK_len sk]; simp [keysL]
              rintro i m σ H ⟨rfl, hi, g, r, O, le, R, S, h⟩
              by_cases hlt : i < (keysL kvs).length
              · obtain ⟨d, hd2⟩ : ∃ d, (keysL kvs)[i]? = some d := ⟨_, List.getElem?_eq_getElem hlt⟩
                have hdrop : (keysL kvs).drop i = d :: (keysL kvs).drop (i + 1) := by
                  rw [List.drop_eq_getElem_cons hlt]
                  congr 1
                  rw [List.getElem?_eq_getElem hlt] at hd2
                  exact Option.some.inj hd2
                rw [hdrop] at h
                unfold forKL at h
                split at h
                · rename_i hst
                  obtain ⟨c2, _⟩ := R.cell l' _ hst
                  rw [le.θ l' hl1] at c2
                  refine .inr ⟨⟨c2, by rw [hlen]; exact hlt⟩, fun σ' H' => ∃ g r O, GLe g1 g ∧ RepO C g H' O ∧ RepS C g σ' r ∧ PostS C W g H' (forKL t f l' (.loc (.frz od (.dK vs)) kvs) ((keysL kvs).drop (i + 1)) r O) (lockD (g0.θ l') (.frz od (.dK vs)) (.dK vs) E), fun σ' H' hh => ⟨_, ?_, rfl, hlt, hh⟩, fun x H2 y => ?_⟩
                  · omega
                  obtain ⟨rfl, k, v, ev, rfl⟩ := y
                  have s2 : Shr C.K g d (kV k) := shrK_key sk hd2 ev g
                  refine u _ σ _ r O R S d _ s2 _ ?_
                  cases z : t d r O with
                  | none => rw [z] at h; exact h.elim
                  | some y =>
                    obtain ⟨r1, O3⟩ := y
                    rw [z] at h
                    intro σ3 g3 H3 e3 R3 S3 _
                    refine sb g3 σ3 H3 r1 O3 R3 S3 _ ?_
                    have h := PostS.shift e3 h
                    cases z2 : f r1 O3 with
                    | nx r2 O2 => simp only [z2] at h; exact fun σ4 g4 H4 e4 R4 S4 => ⟨g4, r2, O2, le.trans (e3.le.trans e4.le), R4, S4, PostS.shift e4 h⟩
                    | ct r2 O2 => simp only [z2] at h; exact fun σ4 g4 H4 e4 R4 S4 => ⟨g4, r2, O2, le.trans (e3.le.trans e4.le), R4, S4, PostS.shift e4 h⟩
                    | bk r2 O2 => simp only [z2] at h; exact h
                    | ret d O2 => simp only [z2] at h; exact h
                    | exc e r2 O2 => simp only [z2] at h; exact h
                    | bad => simp only [z2] at h; exact h
                · exact h.elim
              · have hi' : i = (keysL kvs).length := by omega
                subst hi'
                rw [List.drop_length] at h
                unfold forKL at h
                split at h
                · rename_i hst
                  obtain ⟨c2, _⟩ := R.cell l' _ hst
                  rw [le.θ l' hl1] at c2
                  exact .inl ⟨⟨c2, by rw [hlen]; exact Nat.le_refl _⟩, h σ g H (Ext.refl R) R S⟩
                · exact h.elim
            · exact h3.elim
          · exact h3.elim
        · exact h0.elim
      · exact h0.elim
    · exact h0.elim⟩
/-! ### [.. for k in d] -/
open Classical in
noncomputable def lcLK (t : TG0) (cf : Rho → Sto → Res Bool) (el : DE0) (l : Nat) (c : Cell) (r : Rho) : List D → List D → Sto → Res (List D)
  | [], acc, O => if O[l]? = some c then .ok acc O else .bad
  | d :: ds, acc, O => if O[l]? = some c then (match t d r O with
      | none => .bad
      | some (r1, O1) => match cf r1 O1 with
        | .ok true O2 => (match el r1 O2 with
          | .ok y O3 => if acc.length < sizeLine then lcLK t cf el l c r ds (acc ++ [y]) O3 else .bad
          | _ => .bad)
        | .ok false O2 => lcLK t cf el l c r ds acc O2
        | _ => .bad) else .bad
def toS : ER → SR | .ok d O => .ret d O | _ => .bad
def ofS : SR → ER | .ret d O => .ok d O | _ => .bad
open Classical in
noncomputable def lkK (m : Bool) (t : TG0) (cf : Rho → Sto → Res Bool) (el : DE0) (own : List Nat) (l : Nat) (c : Cell) (kvs : List (DKey × D)) (r : Rho) : D → Sto → ER := fun d O1 => match d with
  | .ob l' => if l' = l ∧ O1[l]? = some c then (lcLK t cf el l c (wipeR r own) (keysL kvs) [] O1).bind fun ds O2 => mkL m ds O2 else .bad
  | _ => .bad
noncomputable def lkR (m : Bool) (fo : DE0) (t : TG0) (cf : Rho → Sto → Res Bool) (el : DE0) (own : List Nat) (l : Nat) (kvs : List (DKey × D)) (r : Rho) (O : Sto) (u : HO) : ER :=
  ofS (openS l (.loc u kvs) kvs (toS ((fo r (O.set l (.loc u kvs))).bind (lkK m t cf el own l (.loc u kvs) kvs r))))
open Classical in
noncomputable def lcKE (m : Bool) (fo : DE0) (t : TG0) (cf : Rho → Sto → Res Bool) (el : DE0) (own : List Nat) : DE0 := fun r O => match fo r O with
  | .ok (.ob l) _ => match O[l]? with
    | some (.dic kvs) => if h : ∃ x, ∀ u, lkR m fo t cf el own l kvs r O u = x then h.choose else .bad
    | _ => .bad
  | _ => .bad
theorem lcKE_eq {m : Bool} {fo : DE0} {t : TG0} {cf : Rho → Sto → Res Bool} {el : DE0} {own : List Nat} {r : Rho} {O O' : Sto} {l : Nat} {kvs : List (DKey × D)} {x : ER} (h1 : fo r O = .ok (.ob l) O') (h2 : O[l]? = some (.dic kvs)) (h3 : ∀ u, lkR m fo t cf el own l kvs r O u = x) : lcKE m fo t cf el own r O = x := by
  unfold lcKE
  rw [h1]
  simp only [h2]
  have h : ∃ x, ∀ u, lkR m fo t cf el own l kvs r O u = x := ⟨x, h3⟩
  rw [dif_pos h]
  rw [← h.choose_spec (.own 0), h3]
theorem toS_post {g : G} {σ : L2.St} {H : Hp} {x : ER} {E : Ends} (h : PostS C W g H (toS x) E) : Post C W σ g H x E.rt := by
  cases x with
  | ok d O => exact h
  | exc e O => exact h.elim
  | bad => exact h.elim
theorem ofS_post {g : G} {σ : L2.St} {H : Hp} {x : SR} {Q : VK} (h : Post C W σ g H (ofS x) Q) : PostS C W g H x { nx := fun _ _ => False, rt := Q } := by
  cases x with
  | ret d O => exact h
  | nx r O => exact h.elim
  | bk r O => exact h.elim
  | ct r O => exact h.elim
  | exc e r O => exact h.elim
  | bad => exact h.elim
variable {elt tg iter : Expr} {ifs : List Expr} {scope : Scope} {t : TG0} {cf : Rho → Sto → Res Bool} {el : DE0}
theorem lck_sat {td : TE} {tgr : L2.TG} {tt : TT} {te : TE} {own own' : List Nat} {m : Bool} (so : Sat C W td fo) (u : SatG C own' tgr t) (hown : ∀ i ∈ own', i ∈ own) (sc : Sat C (fun _ _ _ _ => False) tt cf) (se : Sat C (fun _ _ _ _ => False) te el) :
    Sat C W (tLockE (tLc (iKeys td) tgr tt te own)) (lcKE m fo t cf el own) := fun g0 σ0 H0 r0 O0 R0 S0 Q h0 => by
  unfold lcKE at h0
  split at h0
  · rename_i l _ _
    split at h0
    · rename_i kvs hcell
      split at h0
      · rename_i hx
        have hl : l < g0.n := by rw [R0.n]; exact (List.getElem?_eq_some_iff.mp hcell).1
        obtain ⟨vs, hd, sk⟩ := R0.cell l _ hcell
        refine ⟨g0.θ l, .dK vs, hd, trivial, fun od => ?_⟩
        have h1 : Post C W σ0 g0 H0 (lkR m fo t cf el own l kvs r0 O0 (.frz od (.dK vs))) Q := by rw [hx.choose_spec]; exact h0
        unfold lkR at h1
        have h2 := toS_post (σ := σ0) (open_post R0 hl hd sk (ofS_post h1))
        have RL : RepO C g0 (upd H0 (g0.θ l) (.frz od (.dK vs))) (O0.set l (.loc (.frz od (.dK vs)) kvs)) := R0.set hl ⟨upd_same, od, vs, rfl, sk⟩
        show iKeys td σ0 _ _
        refine so.seq RL S0 h2 fun d O1 v g1 H1 e1 R1 S1 s1 h3 => ?_
        unfold lkK at h3
        split at h3
        · rename_i l'
          split at h3
          · rename_i hh
            obtain ⟨rfl, hO1⟩ := hh
            have s1 : v = .ref (g1.θ l') ∧ l' < g1.n := s1
            obtain ⟨rfl, hl1⟩ := s1
            obtain ⟨c1, _⟩ := R1.cell l' _ hO1
            refine ⟨g1.θ l', od, rfl, .inl ⟨vs, c1, ?_⟩⟩
            have hlen : vs.length = (keysL kvs).length := by rw [shrK_len sk]; simp [keysL]
            intro D hD
            have hc1 : ∀ l, l < g1.n → g1.θ l ≠ D := fun l hl => R1.ne hD hl
            have Sw := S1.wipe own
            generalize hQ : (lockD (g0.θ l') (.frz od (.dK vs)) (.dK vs) { nx := fun _ _ => False, rt := Q }).rt = Q' at h3
            refine ⟨fun i m' H => m' = (keysL kvs).length - i ∧ i ≤ (keysL kvs).length ∧ ∃ g O acc, LcAt C g1 H1 D g H O acc ∧ Post C W σ0 g1 H1 ((lcLK t cf el l' (.loc (.frz od (.dK vs)) kvs) (wipeR r0 own) ((keysL kvs).drop i) acc O).bind fun ds O2 => mkL m ds O2) Q',
              ⟨_, rfl, Nat.zero_le _, g1, O1, [], ⟨Ext.over (Ext.refl R1) hD hc1, RepO.over R1 (R1.Fnone hD) hc1, R1.Fnone hD, hc1, [], upd_same, by simp [ShrL]⟩, h3⟩, ?_⟩
            rintro i m' H ⟨rfl, hi, g, O, acc, L, h⟩
            by_cases hlt : i < (keysL kvs).length
            · obtain ⟨d, hd2⟩ : ∃ d, (keysL kvs)[i]? = some d := ⟨_, List.getElem?_eq_getElem hlt⟩
              have hdrop : (keysL kvs).drop i = d :: (keysL kvs).drop (i + 1) := by
                rw [List.drop_eq_getElem_cons hlt]
                congr 1
                rw [List.getElem?_eq_getElem hlt] at hd2
                exact Option.some.inj hd2
              rw [hdrop] at h
              unfold lcLK at h
              split at h
              · rename_i hst
                obtain ⟨c2, _⟩ := L.rep.cell l' _ hst
                rw [L.ext.le.θ l' hl1] at c2
                refine .inr ⟨⟨c2, by rw [hlen]; exact hlt⟩, fun H' => ∃ g O acc, LcAt C g1 H1 D g H' O acc ∧ Post C W σ0 g1 H1 ((lcLK t cf el l' (.loc (.frz od (.dK vs)) kvs) (wipeR r0 own) ((keysL kvs).drop (i + 1)) acc O).bind fun ds O2 => mkL m ds O2) Q', fun H' hh => ⟨_, ?_, rfl, hlt, hh⟩, fun x H2 y => ?_⟩
                · omega
                obtain ⟨rfl, k, v, ev, rfl⟩ := y
                have s2 : Shr C.K g d (kV k) := shrK_key sk hd2 ev g
                refine u g _ _ _ O L.rep (Sw.mono L.ext.le) d _ s2 _ ?_
                cases z : t d (wipeR r0 own) O with
                | none => rw [z] at h; exact h.elim
                | some y =>
                  obtain ⟨r1, O3⟩ := y
                  rw [z] at h
                  intro σ3 g3 H3 e3 R3 S3 w3
                  refine ⟨?_, ?_⟩
                  · rw [w3 own hown]
                    exact wipe_idem own σ0
                  have L3 := L.next e3 R3
                  refine sc g3 σ3 H3 r1 O3 R3 S3 _ ?_
                  cases z2 : cf r1 O3 with
                  | bad => simp only [z2] at h; exact h.elim
                  | exc er O4 => simp only [z2] at h; exact h.elim
                  | ok b O4 =>
                    simp only [z2] at h
                    intro b' g4 H4 e4 R4 sb
                    cases sb
                    have L4 := L3.next e4 R4
                    cases b with
                    | false => exact ⟨g4, O4, acc, L4, h⟩
                    | true =>
                      simp only at h
                      rw [if_pos rfl]
                      refine se g4 σ3 H4 r1 O4 R4 (S3.mono e4.le) _ ?_
                      cases z3 : el r1 O4 with
                      | bad => simp only [z3] at h; exact h.elim
                      | exc er O5 => simp only [z3] at h; exact h.elim
                      | ok y O5 =>
                        simp only [z3] at h
                        intro v g5 H5 e5 R5 s5
                        have L5 := L4.next e5 R5
                        obtain ⟨vs', a1, a2⟩ := L5.at'
                        split at h
                        · rename_i hz
                          exact ⟨vs', a1, by rw [shrL_len a2]; exact hz, g5, O5, acc ++ [y], L5.push hD hc1 a1 a2 s5, h⟩
                        · exact h.elim
              · exact h.elim
            · have hi' : i = (keysL kvs).length := by omega
              subst hi'
              rw [List.drop_length] at h
              unfold lcLK at h
              split at h
              · rename_i hst
                obtain ⟨c2, _⟩ := L.rep.cell l' _ hst
                rw [L.ext.le.θ l' hl1] at c2
                refine .inl ⟨⟨c2, by rw [hlen]; exact Nat.le_refl _⟩, ?_⟩
                have h : Post C W σ0 g1 H1 (mkL m acc O) Q' := h
                obtain ⟨vs', a1, a2⟩ := L.at'
                show (lockD (g0.θ l') (.frz od (.dK vs)) (.dK vs) { nx := fun _ _ => False, rt := Q }).rt _ _
                rw [hQ]
                cases m with
                | false =>
                  refine h _ (g.frz D (.lst vs')) H (L.ext.adopt hD L.F) (L.rep.adopt L.F a1 L.c) ?_
                  show Shr _ _ (.lst acc) _
                  simp only [Shr]
                  exact ⟨D, vs', rfl, upd_same, ShrL.mono (GLe.frz L.F) _ _ a2⟩
                | true =>
                  refine h _ (g.add D) H (L.ext.adoptC hD) (L.rep.adoptC L.F L.c ⟨vs', a1, ShrL.mono GLe.add _ _ a2⟩) ?_
                  show Shr _ _ (.ob O.length) _
                  simp only [Shr]
                  rw [← L.rep.n, G.add_at]
                  exact ⟨rfl, Nat.lt_succ_self _⟩
              · exact h.elim
          · exact h3.elim
        · exact h3.elim
      · exact h0.elim
    · exact h0.elim
  · exact h0.elim
theorem d_lcK (m : Bool) (own : List (Str × Nat)) {own' : List Nat} (hc : X.calm = true) (hN : X.N.Nodup) (ho : DE C X W iter fo) (ok : blkC X.N X.env.scope scope own = true) (hown : own'.all (fun i => (own.map (·.2)).contains i) = true)
    (hg : ∀ (s : Shared) (H : Hp) (A : Addr) (cl : List (Str × Addr)) (fp : List Addr), DG C (X.blk s H scope (compEnvC scope cl A X.env) fp) tg own' t)
    (ht : ∀ (s : Shared) (H : Hp) (A : Addr) (cl : List (Str × Addr)) (fp : List Addr), DTs C (X.blk s H scope (compEnvC scope cl A X.env) fp) W0 ifs cf)
    (he : ∀ (s : Shared) (H : Hp) (A : Addr) (cl : List (Str × Addr)) (fp : List Addr), DE C (X.blk s H scope (compEnvC scope cl A X.env) fp) W0 elt el)
    (hs : ∀ x, foldedSetIterable iter X.env x = pure x := by intro _; rfl) : DE C X W (.ListComp elt [⟨tg, iter, ifs, 0⟩] scope pos) (lcKE m fo t cf el (own.map (·.2))) := by
  obtain ⟨_, po, so⟩ := ho.ex
  exact ⟨_, pe_lock (pe_lc hc hN (pi_keys po) (blkOk_by ok) (fun s H A cl fp => (hg s H A cl fp).canon) (fun s H A cl fp => (ht s H A cl fp).canon) (fun s H A cl fp => (he s H A cl fp).canon) hs),
    lck_sat so canonG_sat (fun i hi => by simpa using List.all_eq_true.mp hown i hi) canon_sat canon_sat⟩
/-! ### a look into a dict that may be locked; list(a dict) -/
def ixLD : O2 := fun a b O => match a with
  | .ob l => (match O[l]? with
    | some (.loc _ kvs) => (match keyD b with | some k => (match getK kvs k with | some d => .ok d O | none => .bad) | none => .bad)
    | _ => ixD (.ob l) b O)
  | a => ixD a b O
theorem s_ixL : Sat2 C W (rIxA C.K) ixLD := by
  intro g H O R a b x y sx sy σ Q h
  unfold ixLD at h
  split at h
  · rename_i l
    split at h
    · rename_i u kvs e
      split at h
      · rename_i k ek
        have := keyD_of sy ek
        subst this
        split at h
        · rename_i d ed
          have sx : x = .ref (g.θ l) ∧ l < g.n := sx
          obtain ⟨rfl, _⟩ := sx
          obtain ⟨c1, od, vs, rfl, c2⟩ := R.cell l _ e
          obtain ⟨v, q1, q2⟩ := (shrK_get c2).1 d ed
          exact .inr ⟨_, v, rfl, by rw [← q1]; exact .inl ⟨vs, kD k, .inr ⟨od, c1⟩, rfl, rfl⟩, Post.fin R q2 h⟩
        · exact h.elim
      · exact h.elim
    · exact s_ix g H O R _ b x y sx sy σ Q h
  · exact s_ix g H O R _ b x y sx sy σ Q h
theorem d_ixL {a b : Expr} {fa fb : DE0} (hK : X.K = C.K) (hu : X.A.units + 1 < cLine) (ha : DE C X W a fa) (hb : DE C X W b fb) (hs : PlainIx b := by exact fun _ _ => rfl) : DE C X W (.Subscript a b pos) (op2 ixLD fa fb) :=
  let ⟨_, pa, sa⟩ := ha.ex; let ⟨_, pb, sb⟩ := hb.ex; ⟨_, pe_ix (ix_all hu) pa pb hs, sat_op (by rw [hK]; exact s_ixL) sa sb⟩
def listKF (m : Bool) : List D → Sto → ER := fun ds O => match ds with
  | [d] => (match dicOf d O with | some (_, kvs) => mkL m (keysL kvs) O | none => .bad)
  | _ => .bad
theorem shrK_keysL {K : PySem.W.Frag} {g : G} : ∀ {kvs : List (DKey × D)} {vs : List (Key × V)}, ShrK K g kvs vs → ShrL K g (keysL kvs) (vs.map fun kv => kV kv.1)
  | [], vs, h => by simp only [ShrK] at h; subst h; simp [keysL, ShrL]
  | p :: kvs, vs, h => by
    simp only [ShrK] at h
    obtain ⟨v', r, rfl, s2, h3⟩ := h
    simp only [keysL, List.map_cons, ShrL]
    refine ⟨_, _, rfl, ?_, shrK_keysL h3⟩
    cases p.1 with
    | inl i => rfl
    | inr x => rfl
theorem s_listK (m : Bool) : SatC C W (fun xs H Q => ∃ (a : Addr) (kvs : List (Key × V)), xs = [.ref a] ∧ Rd H a (.dK kvs) ∧ ∀ p, H p = none → Q (.ref p) (upd H p (.lst (kvs.map fun kv => kV kv.1)))) (listKF m) := by
  intro g H O R ds vs s σ Q h
  unfold listKF at h
  split at h
  · rename_i d
    obtain ⟨v, rfl, sv⟩ := shrL_one s
    split at h
    · rename_i l kvs eq
      obtain ⟨rfl, _, _, ws, h2, h3⟩ := dicOf_of R sv eq
      exact ⟨_, ws, rfl, .inl h2, fun p hp => new_lst R (shrK_keysL h3) h hp⟩
    · exact h.elim
  · exact h.elim
theorem e_listK {es : List Expr} {fas : Rho → Sto → Res (List D)} (m : Bool) (hK : X.K = C.K) (hc : X.calm = true) (hm : X.mg "list" = none) (hg : Gl X "list") (ha : DA C X W (e :: es) fas)
    (he : starEach (e :: es) X.env = (false, eval e X.env) :: starEach es X.env := by rfl) (hpl : (backTo pos (starEach es X.env)).any (·.1) = false := by rfl) : DE C X W (.Call (.Name "list" p) (e :: es) [] pos) (callE (listKF m) fas) :=
  d_callTy (call_listD hc) (s_listK m) hg hm (by decide +kernel) ha (by decide) (by decide) he hpl
end
end Dn
set_option Elab.async false
set_option linter.all false
set_option maxRecDepth 100000
set_option maxHeartbeats 4000000
/-! xs[a:b:k], k a written number; x.replace(y, z, 1) of written texts, where a token is out -/
namespace Dn
open PySem PySem.Spec PyProof.Rows L2
section
variable {C : Ctx} {X : Cx} {W : WX} {a o e b : Expr} {es : List Expr} {fa fo fe fb : DE0} {fas : Rho → Sto → Res (List D)} {p pos apos p1 p2 c0 c1 c2 : Pos} {lo hi : Option Expr} {j k : Nat}
def pickG {α : Type} (xs : List α) (lo hi : Option Int) (k : Int) : List α :=
  (sliceRange (sliceBounds lo hi (some k) xs.length).1 (sliceBounds lo hi (some k) xs.length).2.1 (sliceBounds lo hi (some k) xs.length).2.2).filterMap (xs[·]?)
theorem vals_pick {xs : List V} {us : List Value} (r : Vals xs us) : ∀ js : List Nat, Vals (js.filterMap (xs[·]?)) (js.filterMap (us[·]?))
  | [] => .nil
  | i :: js => by
    have ih := vals_pick r js
    cases e : xs[i]? with
    | none =>
      have e2 : us[i]? = none := by
        rw [List.getElem?_eq_none_iff] at e ⊢
        rw [← r.length]; exact e
      rw [List.filterMap_cons_none e, List.filterMap_cons_none e2]
      exact ih
    | some x =>
      obtain ⟨u, hu, ru⟩ := r.get e
      rw [List.filterMap_cons_some e, List.filterMap_cons_some hu]
      exact .cons ru ih
theorem pick_len {α : Type} (xs : List α) (lo hi : Option Int) (k : Int) : (pickG xs lo hi k).length ≤ (sliceRange (sliceBounds lo hi (some k) xs.length).1 (sliceBounds lo hi (some k) xs.length).2.1 (sliceBounds lo hi (some k) xs.length).2.2).length := List.length_filterMap_le _ _
theorem shrL_pick {K : PySem.W.Frag} {g : G} {ds : List D} {vs : List V} (h : ShrL K g ds vs) (lo hi : Option Int) (k : Int) : ShrL K g (pickG ds lo hi k) (pickG vs lo hi k) := by
  unfold pickG
  rw [shrL_len h]
  generalize sliceRange _ _ _ = js
  induction js with
  | nil => simp [ShrL]
  | cons i js ih =>
    cases e : ds[i]? with
    | none =>
      have e2 : vs[i]? = none := by
        rw [List.getElem?_eq_none_iff] at e ⊢
        rw [shrL_len h]; exact e
      rw [List.filterMap_cons_none e, List.filterMap_cons_none e2]
      exact ih
    | some d =>
      obtain ⟨v, hv, sv⟩ := shrL_get h e
      rw [List.filterMap_cons_some e, List.filterMap_cons_some hv]
      simp only [ShrL]
      exact ⟨v, _, rfl, sv, ih⟩
theorem slicePick_l (its : List Value) (lo hi : Option Int) (k : Int) : (slicePick its.toArray lo hi (some k)) = (pickG its lo hi k).toArray := by
  unfold slicePick pickG
  rw [List.size_toArray]
  congr 2
  funext i
  simp
def tSlK (K : PySem.W.Frag) (te : TE) (tl th : TO) (k : Int) : TE := fun σ H Q => te σ H fun x H1 => tl σ H1 fun lo H2 => th σ H2 fun hi H3 => ∃ a xs, x = .ref a ∧ SqL K H3 a xs ∧ ∀ p, H3 p = none → Q (.ref p) (upd H3 p (.lst (pickG xs lo hi k)))
theorem pe_slK {te : TE} {tl th : TO} {k : Int} {kk : Nat} {p3 : Pos} (hk : k ≠ 0) (he : PE X e te) (hl : PO X lo tl) (hu : PO X hi th) : PE X (.Subscript e (.Slice lo hi (some (.Constant (.int k) kk p1)) p3) pos) (tSlK X.K te tl th k) := by
  refine ⟨fun pins s σ H Q I h => ?_⟩
  refine Subscript_ (thn (he.run pins s σ H _ I h) fun v s1 ⟨x, H1, I1, r1, q1⟩ => ?_)
  have hst : PO X (some (.Constant (.int k) kk p1)) (tPart (tC (.int k))) := po_some pe_int
  refine wpAny_Slice (thn (hl.run pins s1 σ H1 _ I1 q1) fun vl s2 ⟨l, H2, I2, pl, q2⟩ => thn (hu.run pins s2 σ H2 _ I2 q2) fun vu s3 ⟨u, H3, I3, pu, q3⟩ => ?_)
  refine thn (hst.run pins s3 σ H3 (fun o H4 => o = some k ∧ H4 = H3) I3 ⟨k, rfl, rfl, rfl⟩) fun vs s4 ⟨o, H4, I4, ps, eo, e4⟩ => ?_
  subst eo e4
  obtain ⟨a, xs, ex, hx, q⟩ := q3
  subst ex
  cases r1
  have I5 : Inv X pins σ H4 { s4 with heap := s4.heap.push { cls := .type "slice", data := .fields #[vl, vu, vs] } } := I4.kept (t' := s4.toks) fun b ob q => Heap.get?_push_of_some _ q
  obtain ⟨its, r, ht, hz⟩ := I5.list hx
  have hlen := r.length
  show wpAny (model X.prog X.w) X.A (subscriptTail e (.Slice lo hi (some (.Constant (.int k) kk p1)) p3) (.ref a) (.ref s4.heap.objs.size)) (EP X pins σ Q) X.xe { s4 with heap := s4.heap.push { cls := .type "slice", data := .fields #[vl, vu, vs] } }
  refine tail_any (ops := [.ref a, .ref s4.heap.objs.size]) ht.isList.typeIs (PySem.slot_list_getitem.lookup) ?_ (by with_unfolding_all rfl)
  refine wpAny_getItem_list_slice ht.isList (Heap.IsSliceOf.new _ vl vu vs) pl pu ps (by intro z; exact hk (by injection z)) ?_ (by rw [List.size_toArray]; omega)
  rw [slicePick_l]
  refine ⟨.ref _, _, I5.laid (t' := s4.toks) (o := .lst (pickG xs l u k)) (fun b ob q => Heap.get?_push_of_some _ q) (Nat.le_refl _) ?_, rfl, q _ (I5.hok.fresh (Nat.le_refl _))⟩
  have e1 : pickG xs l u k = (sliceRange (sliceBounds l u (some k) its.length).1 (sliceBounds l u (some k) its.length).2.1 (sliceBounds l u (some k) its.length).2.2).filterMap (xs[·]?) := by unfold pickG; rw [hlen]
  have hv : Vals (pickG xs l u k) (pickG its l u k) := by rw [e1]; exact vals_pick r _
  have hsz := slicePick_size_le its.toArray l u (some k)
  rw [slicePick_l, List.size_toArray, List.size_toArray] at hsz
  have hl2 := hv.length
  exact ⟨by omega, _, 0, hv, Heap.get?_push_size _ rfl⟩
def slKE (m : Bool) (f : DE0) (l h : Rho → Sto → Res (Option Int)) (k : Int) : DE0 := fun r O => (f r O).bind fun d O1 => (l r O1).bind fun lo O2 => (h r O2).bind fun hi O3 => match listR d O3 with | some ds => mkL m (pickG ds lo hi k) O3 | none => .bad
@[simp] theorem ev_slKE (m : Bool) (f : DE0) (l h : Rho → Sto → Res (Option Int)) (k : Int) (r : Rho) (O : Sto) : slKE m f l h k r O = (f r O).bind fun d O1 => (l r O1).bind fun lo O2 => (h r O2).bind fun hi O3 => match listR d O3 with | some ds => mkL m (pickG ds lo hi k) O3 | none => .bad := rfl
theorem d_slK (m : Bool) (hK : X.K = C.K) {fl fh : Rho → Sto → Res (Option Int)} {k : Int} {kk : Nat} {p3 : Pos} (ha : DE C X W a fa) (hl : DO C X W lo fl) (hh : DO C X W hi fh) (hk : k ≠ 0 := by decide) : DE C X W (.Subscript a (.Slice lo hi (some (.Constant (.int k) kk p1)) p3) pos) (slKE m fa fl fh k) :=
  let ⟨_, pa, sa⟩ := ha.ex; let ⟨_, pl, sl⟩ := hl.ex; let ⟨_, ph, sh⟩ := hh.ex
  ⟨_, pe_slK hk pa pl ph, fun g σ H r O R S Q h => sa.seq R S h fun d O1 v g1 H1 e1 R1 S1 s1 h1 => sl.seq R1 S1 h1 fun lo O2 lo' g2 H2 e2 R2 S2 s2 h2 => sh.seq R2 S2 h2 fun hi O3 hi' g3 H3 e3 R3 S3 s3 h3 => by
    cases s2; cases s3
    have sd : Shr C.K g3 d v := Shr.mono (e2.le.trans e3.le) _ _ s1
    rw [hK]
    split at h3
    · rename_i ds e
      obtain ⟨p, vs, rfl, h4, h5⟩ := listR_of R3 sd e
      exact ⟨p, vs, rfl, h4, fun q hq => new_lst R3 (shrL_pick h5 lo hi k) h3 hq⟩
    · exact h3.elim⟩
/-! ### replace, so many times -/
def Txt1 (x y z : Str) (n : Nat) : Str := if ((Builtin.Str.occurrences x y 0 x.length n).isEmpty || (y.length == 0 && z.length == 0)) = true then x else Builtin.Str.glued z (Builtin.Str.partsBetween x (Builtin.Str.occurrences x y 0 x.length n) y.length)
theorem txt1_len (x y z : Str) (n : Nat) : (Txt1 x y z n).length ≤ x.length + n * z.length := by
  unfold Txt1
  split
  · exact Nat.le_add_right _ _
  · have h1 := StrLaws.occ_length_le x y 0 x.length n
    have hy : (Builtin.Str.glued y (Builtin.Str.partsBetween x (Builtin.Str.occurrences x y 0 x.length n) y.length)).length = x.length := by rw [StrLaws.glued_between_self]
    rw [size_glued, length_partsBetween, Nat.add_sub_cancel] at hy
    rw [size_glued, length_partsBetween, Nat.add_sub_cancel]
    have h2 : (Builtin.Str.occurrences x y 0 x.length n).length * z.length ≤ n * z.length := Nat.mul_le_mul_right _ h1
    omega
section
open Builtin Builtin.Str
theorem gives_replace_n (x y z : Str) (t u v w : Tok) (n : Nat) (hn : n < 1000)
    (hf : (u == 0 || v == 0) = false ∧ (u == v) = false ∧ (y == z) = false ∧ tooLong (x.length + (occurrences x y 0 x.length n).length * z.length) = false) :
    Gives («str.replace» ⟨[.str x t, .str y u, .str z v, .int (n : Nat) w], []⟩) (if ((occurrences x y 0 x.length n).isEmpty || (y.length == 0 && z.length == 0)) = true then .val (.str x t) else .str (glued z (partsBetween x (occurrences x y 0 x.length n) y.length))) := by
  show Gives (do let limit ← countLimit "str.replace" (some (.int (n : Nat) w)) (x.length + 1); (if ((occurrences x y 0 x.length limit).isEmpty || (y.length == 0 && z.length == 0)) = true then (do rule "str.replace.nothing"; ret (.str x t)) else
          (do let same ← isSame (.str y u) (.str z v)
              if same = true then (do rule "str.replace.old-is-new"; ret (.str x t)) else
              if tooLong (x.length + (occurrences x y 0 x.length limit).length * z.length) = true then unsupported "str.replace:memory" else
              retStr (glued z (partsBetween x (occurrences x y 0 x.length limit) y.length))))) _
  rw [countLimit_int "str.replace" (n : Nat) w (x.length + 1) (by
    have e : (2 : Int) ^ 63 = 9223372036854775808 := by decide
    rw [e]
    simp
    omega)]
  rw [if_neg (by omega), Int.toNat_natCast]
  show Gives (if ((occurrences x y 0 x.length n).isEmpty || (y.length == 0 && z.length == 0)) = true then (do rule "str.replace.nothing"; ret (.str x t)) else
          (do let same ← isSame (.str y u) (.str z v)
              if same = true then (do rule "str.replace.old-is-new"; ret (.str x t)) else
              if tooLong (x.length + (occurrences x y 0 x.length n).length * z.length) = true then unsupported "str.replace:memory" else
              retStr (glued z (partsBetween x (occurrences x y 0 x.length n) y.length)))) _
  cases hc : ((occurrences x y 0 x.length n).isEmpty || (y.length == 0 && z.length == 0))
  · obtain ⟨h0, huv, hyz, hl⟩ := hf
    rw [isSame_str_other y z u v h0 huv hyz, hl]
    exact .of_eq rfl
  · exact .rule (.of_eq rfl)
theorem sc_replace_n {prog : Program} {w : World} {A : Around} {E : Value → Shared → Prop} {s : Shared} {x y z : Str} {t u v c : Tok} {n : Nat} {Q : Value → Shared → Prop} (hn : n < 1000) (hu : u ≠ 0) (hv : v ≠ 0) (huv : u ≠ v) (hyz : (y == z) = false) (hb : x.length + n * z.length ≤ 16777216)
    (hq : ∀ t' k, Q (.str (Txt1 x y z n) t') { s with toks := k }) : wpAny (model prog w) A (call (.builtin "str.replace") [.str x t, .str y u, .str z v, .int (n : Nat) c]) Q E s := by
  have e : sizeLine = 16777216 := by decide
  have hl : tooLong (x.length + (occurrences x y 0 x.length n).length * z.length) = false := by
    have h1 := StrLaws.occ_length_le x y 0 x.length n
    have h2 : (occurrences x y 0 x.length n).length * z.length ≤ n * z.length := Nat.mul_le_mul_right _ h1
    unfold tooLong
    rw [e]
    exact decide_eq_false (by omega)
  refine call_gives F.slot_str_replace (typeIs_str _ _ _) F.entry_str_replace (F.args_str_replace_4 _ _ _ _) (gives_replace_n x y z t u v c n hn ⟨by simp [hu, hv], by simp [huv], hyz, hl⟩) ?_
  have hq' := hq
  have hl2 := txt1_len x y z n
  unfold Txt1 at hq' hl2
  cases hc : ((occurrences x y 0 x.length n).isEmpty || (y.length == 0 && z.length == 0))
  · rw [hc] at hq' hl2
    simp only [Bool.false_eq_true, if_false] at hq' hl2 ⊢
    exact ⟨by rw [e]; omega, hq' _ _⟩
  · rw [hc] at hq'
    simp only [if_true] at hq' ⊢
    exact hq' t s.toks
end
end
end Dn
namespace CwR
open PySem PySem.Spec PyProof.Rows L2
def tReplN (to : TE) (y z : Str) (n : Nat) : TE := fun σ H Q => to σ H fun v H1 => ∃ x, v = .str x ∧ x.length + n * z.length ≤ 16777216 ∧ Q (.str (Dn.Txt1 x y z n)) H1
theorem pet_replN {X : Cx} {o : Expr} {to : TE} {y z : Str} {n : Nat} {j k l : Nat} {c0 c1 c2 apos pos : Pos} (hn : n < 1000) (ho : PE X o to) (hyz : (y == z) = false := by decide)
    (hst : starEach [.Constant (.str y) j c0, .Constant (.str z) k c1, .Constant (.int (n : Nat)) l c2] X.env = [(false, eval (.Constant (.str y) j c0) X.env), (false, eval (.Constant (.str z) k c1) X.env), (false, eval (.Constant (.int (n : Nat)) l c2) X.env)] := by rfl)
    (hbase : attributeBase o "replace" X.env (eval o X.env) = eval o X.env := by rfl) (hline : (apos.endLine == pos.line) = true := by rfl) :
    PET X (.Call (.Attribute o "replace" apos) [.Constant (.str y) j c0, .Constant (.str z) k c1, .Constant (.int (n : Nat)) l c2] [] pos) (tReplN to y z n) := by
  intro pins s σ H Q h0 I h
  refine wpAny_Call_method_lateS hbase (by rw [hst]; rfl) hline ?_
  rw [hst]
  refine wpAny_mono (PySem.wpAny_toks (ho.run pins s σ H _ I h)) (fun v s1 q => ?_) fun _ _ z => z.2
  obtain ⟨hk, v', H1, I1, r1, x, e1, hb, q⟩ := q
  subst e1
  obtain ⟨tx, e2⟩ := r1
  subst e2
  refine ⟨"str", _, PySem.F.plainAttrs_str, PySem.F.slot_str_replace, PySem.F.type_str_replace, typeIs_str _ _ _, (fun _ e => nomatch e), Calls.callWith_builtin rfl (Calls.evalArgs_plain (Calls.spliced_cons ?_))⟩
  refine Calls.Constant_str (pos := c0) (k := j) ?_
  show wpAny _ _ (spliced ((false, eval (.Constant (.str z) k c1) X.env) :: (false, eval (.Constant (.int (n : Nat)) l c2) X.env) :: [])) _ _ _
  refine Calls.spliced_cons (Calls.Constant_str (pos := c1) (k := k) ?_)
  show wpAny _ _ (spliced ((false, eval (.Constant (.int (n : Nat)) l c2) X.env) :: [])) _ _ _
  refine Calls.spliced_cons ?_
  have I2 : Inv X pins σ H1 { s1 with toks := s1.toks + 1 + 1 } := I1.tok _
  refine thn ((pe_int (X := X)).run pins _ σ H1 (fun y H2 => y = .int (n : Nat) ∧ H2 = H1) I2 ⟨rfl, rfl⟩) fun u s3 ⟨y3, H3, I3, r3, e3, e4⟩ => ?_
  subst e3 e4
  obtain ⟨t3, rfl⟩ := r3
  refine Calls.spliced_nil ?_
  exact Dn.sc_replace_n hn (by show s1.toks ≠ 0; omega) (by show s1.toks + 1 ≠ 0; omega) (by show s1.toks ≠ s1.toks + 1; omega) hyz hb fun t' k => ⟨.str (Dn.Txt1 x y z n), H3, I3.tok k, ⟨t', rfl⟩, q⟩
end CwR
namespace Dn
open PySem PySem.Spec PyProof.Rows L2
section
variable {C : Ctx} {X : Cx} {W : WX} {o e b : Expr} {es : List Expr} {fo fe fb : DE0} {fas : Rho → Sto → Res (List D)} {pos apos p2 c0 c1 c2 : Pos} {j k l : Nat}
def replN (x y z : List Nat) (n : Nat) : List Nat := TL.tl (Txt1 (mkS x) (mkS y) (mkS z) n)
theorem replN_len (x y z : List Nat) (n : Nat) : (replN x y z n).length ≤ x.length + n * z.length := by
  have h := txt1_len (mkS x) (mkS y) (mkS z) n
  rw [len_mkS, len_mkS] at h
  have e : (replN x y z n).length = (Txt1 (mkS x) (mkS y) (mkS z) n).length := by
    unfold replN
    rw [← len_mkS, show mkS (TL.tl (Txt1 (mkS x) (mkS y) (mkS z) n)) = Txt1 (mkS x) (mkS y) (mkS z) n from TL.ext_tl rfl]
  rw [e]; exact h
def replNE (y z : List Nat) (n : Nat) (fo : DE0) : DE0 := fun r O => (fo r O).bind fun d O1 => match d with | .str x => if x.length + n * z.length ≤ 16777216 then .ok (.str (replN x y z n)) O1 else .bad | _ => .bad
theorem sat_replN {to : TE} (y z : List Nat) (n : Nat) (so : Sat C W to fo) : Sat C W (CwR.tReplN to (mkS y) (mkS z) n) (replNE y z n fo) := fun g σ H r O R S Q h => so.seq R S h fun d O1 v g1 H1 e1 R1 S1 s1 h1 => by
  split at h1
  · rename_i x
    cases s1
    split at h1
    · rename_i hl
      refine ⟨mkS x, rfl, by rw [len_mkS, len_mkS]; exact hl, ?_⟩
      have e : Txt1 (mkS x) (mkS y) (mkS z) n = mkS (replN x y z n) := TL.ext_tl rfl
      rw [e]
      exact Post.fin R1 rfl h1
    · exact h1.elim
  · exact h1.elim
theorem t_replN (y z : List Nat) (n : Nat) {a b : Str} {i : Int} (ho : DE C X W o fo) (ha : a = ⟨y.toArray⟩ := by first | rfl | decide +kernel) (hb : b = ⟨z.toArray⟩ := by first | rfl | decide +kernel) (hi : i = (n : Int) := by rfl) (hn : n < 1000 := by decide) (hyz : (a == b) = false := by decide)
    (hst : starEach [.Constant (.str a) j c0, .Constant (.str b) k c1, .Constant (.int i) l c2] X.env = [(false, eval (.Constant (.str a) j c0) X.env), (false, eval (.Constant (.str b) k c1) X.env), (false, eval (.Constant (.int i) l c2) X.env)] := by rfl)
    (hbase : attributeBase o "replace" X.env (eval o X.env) = eval o X.env := by rfl) (hline : (apos.endLine == pos.line) = true := by rfl) :
    DEt C X W (.Call (.Attribute o "replace" apos) [.Constant (.str a) j c0, .Constant (.str b) k c1, .Constant (.int i) l c2] [] pos) (replNE y z n fo) := by
  subst ha hb hi
  obtain ⟨_, po, so⟩ := ho.ex
  exact ⟨_, CwR.pet_replN hn po hyz hst hbase hline, sat_replN y z n so⟩
/-- a written list, a token out -/
theorem et_lst (m : Bool) (h : DAt' C X W es fas) : DEt C X W (.List es pos) (lstE m fas) :=
  let ⟨_, pa, sa⟩ := h.ex; ⟨_, pet_lst pa, fun g σ H r O R S Q h => sa.seq R S h fun ds O1 vs g1 H1 e1 R1 S1 s1 h1 => by
    split at h1
    · rename_i hl
      exact ⟨by rw [shrL_len s1]; exact hl, fun p hp => new_lst R1 s1 h1 hp⟩
    · exact h1.elim⟩
/-! ### behind x = ".."[e] a token is out -/
structure DSg (C : Ctx) (X : Cx) (W : WX) (st : Stmt) (f : DS0) : Prop where
  ex : ∃ t, (∀ (pins : List (Addr × Obj)) (s : Shared) (σ : L2.St) (H : Hp) (D : Ends), Inv X pins σ H s → t D σ H → wpAny (model X.prog X.w) X.A (exec st X.env) (fun f s' => 1 ≤ s'.toks ∧ SP X pins D f s') X.xe s) ∧ SatS C W t f
theorem sg_setIx (i : Nat) (z : List Nat) {x a : Str} {pos' : Pos} (hK : X.K = C.K) (hu : X.A.units + 1 < cLine) (hN : X.N.Nodup) (hb : DE C X W b fb) (ha : a = ⟨z.toArray⟩ := by first | rfl | decide +kernel) (hi : X.N[i]? = some x := by rfl) (hx : Loc X.env.scope x := by first | exact Or.inl rfl | exact Or.inr rfl)
    (hs : swapsWith (.Subscript (.Constant (.str a) j c0) b p2) (some (.Name x pos')) pos.line X.env = pure false := by rfl) (hf : X.fn x = true ∨ X.env.scope.names.lookup x = some .local := by first | exact .inl rfl | exact .inr rfl | assumption) (hp : PlainIx b := by exact fun _ _ => rfl) :
    DSg C X W (.Assign [.Name x pos'] (.Subscript (.Constant (.str a) j c0) b p2) pos) (setS i (op2 ixD (constE (.str z)) fb)) := by
  subst ha
  obtain ⟨tb, pb, sb⟩ := hb.ex
  have sa : Sat C W (tC (.str (mkS z))) (constE (.str z)) := sat_c fun _ => rfl
  have so := sat_op (by rw [hK]; exact s_ix : Sat2 C W (rIxA X.K) ixD) sa sb
  refine ⟨tAsg (tOp (rIxA X.K) (tC (.str (mkS z))) tb) (gName i), fun pins s σ H D I h => ?_, fun g σ H r O R S E h => so.seqS R S h fun d O1 v g1 H1 e1 R1 S1 s1 h1 => h1 _ g1 H1 (Ext.refl R1) R1 (S1.set s1)⟩
  refine wpAny_Assign_Name (Subscript_ (Calls.Constant_str ?_)) hs
  have k1 : 1 ≤ ({ s with toks := s.toks + 1 } : Shared).toks := by show 1 ≤ s.toks + 1; omega
  refine wpAny_mono (PySem.wpAny_toks_of k1 (pb.run pins _ σ H _ (I.tok _) h)) (fun u s2 q => ?_) fun _ _ z => z.2
  obtain ⟨k2, y, H2, I2, ry, q2⟩ := q
  refine wpAny_mono (PySem.wpAny_toks_of k2 (ix_all hu (.Constant (.str (mkS z)) j c0) b pins s2 σ H2 (.str (mkS z)) y _ u _ I2 ⟨_, rfl⟩ ry q2 (hp _ _))) (fun w s3 q => ?_) fun _ _ z => z.2
  obtain ⟨k3, v3, H3, I3, r3, q3⟩ := q
  refine wpAny_mono (PySem.wpAny_toks_of k3 (store_ok I3 hN hi hx r3 (fun s' I' => (⟨_, H3, I', q3⟩ : SP X pins D .next s')) hf)) (fun _ s4 q => q) fun _ _ z => z.2
theorem ss_consG {st : Stmt} {rest : List Stmt} {f g : DS0} (h : DSg C X W st f) (k : DSt' C X W rest g) : DSs C X W (st :: rest) (consS f g) := by
  obtain ⟨t, p, s⟩ := h.ex
  obtain ⟨t', p', s'⟩ := k.ex
  refine ⟨tSeq t t', ⟨fun pins s0 σ H D I h => ?_⟩, sat_seq s s'⟩
  refine wpAny_execs_cons (thn (p pins s0 σ H { D with nx := t' D } I h) fun fl s1 q => ?_)
  obtain ⟨hk, q⟩ := q
  cases fl with
  | next =>
    obtain ⟨σ', H', I', q⟩ := q
    exact p' pins s1 σ' H' D hk I' q
  | ret v => exact q
  | brk => exact q
  | cont => exact q
end
end Dn
set_option Elab.async false
set_option linter.all false
set_option maxRecDepth 100000
set_option maxHeartbeats 4000000
namespace Lk04
open Dn PySem
/-! The pure functions of k04. -/
abbrev c_DEEP_MOST_names : D := Lib.c_DEEP_MOST_names
abbrev c_FIGURES_MOST : D := Lib.c_FIGURES_MOST
abbrev c_LEVEL_MOST : D := Lib.c_LEVEL_MOST
abbrev c_PART_MOST : D := Lib.c_PART_MOST
abbrev c_SIGNS_names : D := Lib.c_SIGNS_names
abbrev c_WORDS : D := Lib.c_WORDS
abbrev c_WORDS_MOST : D := Lib.c_WORDS_MOST
abbrev B__law_d : DS0 := Lib.B__law_d
abbrev fn__law_d : Fn := Lib.fn__law_d
abbrev B__law_or : DS0 := LibC.B__law_or
abbrev fn__law_or : Fn := LibC.fn__law_or
abbrev Q__law_level_1 : DS0 := LibC.Q__law_level_1
abbrev B__law_level : DS0 := LibC.B__law_level
abbrev fn__law_level : Fn := LibC.fn__law_level
def Q__law_number_1 : DS0 :=
  (setS 2 (op2 (addD false) (op2 (mulD false) (constE (.int 10)) (varE 2)) (bmE tyStr find1F (constE (.str [48, 49, 50, 51, 52, 53, 54, 55, 56, 57])) (consA (varE 1) nilA))))
def B__law_number : DS0 :=
  (consS (ifS (orT (notT (chainT leD leD (constE (.int 1)) (callE lenF (consA (varE 0) nilA)) (constE (.int 9)))) (truT (lcE false (seqI (varE 0)) (nameG 1) (cmpT (inB true) (varE 1) (constE (.str [48, 49, 50, 51, 52, 53, 54, 55, 56, 57]))) (varE 1) [1])))
    (retS (constE .non))
    nilS)
    (consS (ifS (andT (truT (bmE tyStr startswithF (varE 0) (consA (constE (.str [48])) nilA))) (cmpT neD (varE 0) (constE (.str [48]))))
    (retS (constE .non))
    nilS)
    (consS (setS 2 (constE (.int 0)))
    (consS (forS (seqI (varE 0)) (nameG 1)
    Q__law_number_1)
    (retS (varE 2))))))
def fn__law_number : Fn := runFn 3 B__law_number
def Q__law_parsed_1 : DS0 :=
  (consS (setS 9 (lcE false (seqI (varE 8)) (nameG 10) (cmpT (inB true) (varE 10) (constE (.str [97, 98, 99, 100, 101, 102, 103, 104, 105, 106, 107, 108, 109, 110, 111, 112, 113, 114, 115, 116, 117, 118, 119, 120, 121, 122, 48, 49, 50, 51, 52, 53, 54, 55, 56, 57, 95]))) (varE 10) [10]))
    (ifS (andT (cmpT neD (varE 7) (constE (.str [42]))) (orT (truT (varE 9)) (notT (chainT leD leD (constE (.int 1)) (callE lenF (consA (varE 8) nilA)) (constE (.int 8))))))
    (retS (constE .non))
    nilS))
def B__law_parsed : DS0 :=
  (consS (setS 1 (bmE tyStr (splitF false) (varE 0) (consA (constE (.str [32])) nilA)))
    (consS (ifS (cmpT ltD (callE lenF (consA (varE 1) nilA)) (constE (.int 5)))
    (retS (constE .non))
    nilS)
    (consS (setS 2 (fnE 1 (closeFn fn__law_number) (consA (op2 ixD (varE 1) (constE (.int 0))) nilA)))
    (consS (setS 3 (fnE 1 (closeFn fn__law_number) (consA (op2 ixD (varE 1) (constE (.int 1))) nilA)))
    (consS (setS 4 (lcE false (callI range1F (consA (constE (.int 100)) nilA)) (nameG 5) (cmpT eqD (fnE 1 (closeFn fn__law_level) (consA (varE 5) nilA)) (op2 ixD (varE 1) (constE (.int 2)))) (varE 5) [5]))
    (consS (setS 6 (bmE tyStr joinF (constE (.str [32])) (consA (slE false (varE 1) (someP (constE (.int 4))) noP) nilA)))
    (consS (setS 7 (op2 ixD (varE 1) (constE (.int 3))))
    (consS (forS (seqI (bmE tyStr (splitF false) (varE 7) (consA (constE (.str [46])) nilA))) (nameG 8)
    Q__law_parsed_1)
    (consS (ifS (orT (cmpT isNoneD (varE 2) (constE .non)) (orT (cmpT eqD (varE 2) (constE (.int 0))) (orT (cmpT isNoneD (varE 3) (constE .non)) (orT (notT (truT (varE 4))) (cmpT gtD (callE lenF (consA (varE 6) nilA)) (constE (.int 80)))))))
    (retS (constE .non))
    nilS)
    (consS (ifS (cmpT gtD (callE lenF (consA (bmE tyStr (splitF false) (varE 7) (consA (constE (.str [46])) nilA)) nilA)) (constE (.int 6)))
    (retS (constE .non))
    nilS)
    (consS (ifS (cmpT eqD (varE 7) (constE (.str [42])))
    (setS 7 (constE (.str [])))
    nilS)
    (retS (tupE (consA (varE 2) (consA (tupE (consA (varE 3) (consA (op2 ixD (varE 4) (constE (.int 0))) (consA (varE 7) (consA (varE 6) nilA))))) nilA)))))))))))))))
def fn__law_parsed : Fn := runFn 11 B__law_parsed
abbrev B__law_mix : DS0 := LibC.B__law_mix
abbrev fn__law_mix : Fn := LibC.fn__law_mix
abbrev Q__law_name_1 : DS0 := LibC.Q__law_name_1
abbrev Q__law_name_2 : DS0 := LibC.Q__law_name_2
abbrev B__law_name : DS0 := LibC.B__law_name
abbrev fn__law_name : Fn := LibC.fn__law_name
abbrev Q__law_words_1 : DS0 := LibC.Q__law_words_1
abbrev B__law_words : DS0 := LibC.B__law_words
abbrev fn__law_words : Fn := LibC.fn__law_words
abbrev B__law_record : DS0 := LibC.B__law_record
abbrev fn__law_record : Fn := LibC.fn__law_record
abbrev B__law_row : DS0 := LibC.B__law_row
abbrev fn__law_row : Fn := LibC.fn__law_row
abbrev B__law_same : Fn → DS0 := Lib.B__law_same
abbrev fn__law_same : Nat → Fn := Lib.fn__law_same
abbrev B_is_name : DS0 := Lib.B_is_name
abbrev fn_is_name : Fn := Lib.fn_is_name
abbrev B_read_figures : DS0 := Lib.B_read_figures
abbrev fn_read_figures : Fn := Lib.fn_read_figures
abbrev B_level_word : DS0 := Lib.B_level_word
abbrev fn_level_word : Fn := Lib.fn_level_word
abbrev Q_read_level_1 : DS0 := Lib.Q_read_level_1
abbrev B_read_level : DS0 := Lib.B_read_level
abbrev fn_read_level : Fn := Lib.fn_read_level
abbrev Q_read_row_1 : DS0 := Lib.Q_read_row_1
abbrev B_read_row : DS0 := Lib.B_read_row
abbrev fn_read_row : Fn := Lib.fn_read_row
def Q_read_row_f_1 : DS0 :=
  (consS (asgS (tupG 3 (consG (nameG 4) (consG (nameG 5) (consG (nameG 2) nilG)))) (bmE tyStr partition1F (varE 2) (consA (constE (.str [32])) nilA)))
    (consS (ifS (cmpT eqD (varE 5) (constE (.str [])))
    (raiseS 2)
    nilS)
    (exprS (bmE tyLst appendF (varE 1) (consA (varE 4) nilA)))))
def B_read_row_f : DS0 :=
  (consS (setS 1 (lstE true nilA))
    (consS (setS 2 (varE 0))
    (consS (forS (callI range1F (consA (constE (.int 4)) nilA)) (nameG 3)
    Q_read_row_f_1)
    (consS (setS 6 (fnE 1 (closeFn fn_read_figures) (consA (op2 ixD (varE 1) (constE (.int 0))) nilA)))
    (consS (setS 7 (fnE 1 (closeFn fn_read_figures) (consA (op2 ixD (varE 1) (constE (.int 1))) nilA)))
    (consS (tryFS 1 2 (setS 8 (fnE 1 (closeFn fn_read_level) (consA (op2 ixD (varE 1) (constE (.int 2))) nilA))))
    (consS (setS 9 (op2 ixD (varE 1) (constE (.int 3))))
    (consS (ifS (cmpT eqD (varE 9) (constE (.str [42])))
    (setS 9 (constE (.str [])))
    (ifS (orT (cmpT eqD (varE 9) (constE (.str []))) (notT (truT (fnE 1 (closeFn fn_is_name) (consA (varE 9) nilA)))))
    (raiseS 2)
    nilS))
    (consS (ifS (orT (cmpT eqD (varE 6) (constE (.int 0))) (cmpT gtD (callE lenF (consA (varE 2) nilA)) (constE c_WORDS_MOST)))
    (raiseS 2)
    nilS)
    (retS (tupE (consA (varE 6) (consA (tupE (consA (varE 7) (consA (varE 8) (consA (varE 9) (consA (varE 2) nilA))))) nilA)))))))))))))
def fn_read_row_f : Fn := runFn 10 B_read_row_f
def B__law_told : DS0 :=
  (consS (setS 1 (constE .non))
    (consS (tryS 2 (setS 1 (fnE 1 (closeFn fn_read_row_f) (consA (varE 0) nilA))) (setS 1 (constE (.str [114, 101, 102, 117, 115, 101, 100]))))
    (retS (varE 1))))
def fn__law_told : Fn := runFn 2 B__law_told
def Q_law_1 : DS0 :=
  (ifS (andT (cmpT leD (callE lenF (consA (varE 8) nilA)) (constE (.int 300))) (notT (truT (fnE 2 (closeFn (fn__law_same 100)) (consA (fnE 1 (closeFn fn__law_told) (consA (varE 8) nilA)) (consA (fnE 1 (closeFn fn__law_or) (consA (fnE 1 (closeFn fn__law_parsed) (consA (varE 8) nilA)) nilA)) nilA))))))
    (retS (constE (.bl false)))
    nilS)
def Q_law_2 : DS0 :=
  (consS (setS 3 (fnE 2 (closeFn fn__law_row) (consA (op2 ixD (lstE false (consA (op2 (addD false) (op2 modD (op2 fdivD (varE 1) (constE (.int 2))) (constE (.int 999999999))) (constE (.int 1))) (consA (fnE 3 (closeFn fn__law_d) (consA (varE 1) (consA (constE (.int 1)) (consA (constE (.int 5)) nilA)))) nilA))) (fnE 3 (closeFn fn__law_d) (consA (varE 1) (consA (constE (.int 1)) (consA (constE (.int 2)) nilA))))) (consA (fnE 1 (closeFn fn__law_record) (consA (varE 1) nilA)) nilA))))
    (consS (setS 4 (op2 modD (varE 2) (op2 (addD false) (callE lenF (consA (varE 3) nilA)) (constE (.int 1)))))
    (consS (setS 5 (op2 modD (op2 modD (op2 fdivD (varE 2) (constE (.int 7))) (constE (.int 30))) (op2 (addD false) (callE lenF (consA (varE 3) nilA)) (constE (.int 1)))))
    (consS (setS 6 (op2 ixD (constE (.str [32, 48, 42, 46, 43, 97, 122, 57, 65, 34, 45, 95])) (op2 modD (op2 fdivD (varE 2) (constE (.int 11))) (constE (.int 12)))))
    (consS (setS 7 (lstE false (consA (varE 3) (consA (slE false (varE 3) noP (someP (varE 4))) (consA (op2 (addD false) (op2 (addD false) (slE false (varE 3) noP (someP (varE 4))) (varE 6)) (slE false (varE 3) (someP (varE 4)) noP)) (consA (op2 (addD false) (op2 (addD false) (slE false (varE 3) noP (someP (varE 5))) (varE 6)) (slE false (varE 3) (someP (op2 (addD false) (varE 5) (constE (.int 1)))) noP)) (consA (op2 (addD false) (constE (.str [48])) (varE 3)) nilA)))))))
    (consS (setS 7 (op2 (addD false) (varE 7) (lstE false (consA (op2 (addD false) (slE false (varE 3) noP (someP (varE 5))) (slE false (varE 3) (someP (op2 (addD false) (varE 5) (constE (.int 1)))) noP)) (consA (op2 (addD false) (varE 3) (op2 mulS2D (constE (.str [120])) (fnE 3 (closeFn fn__law_d) (consA (varE 1) (consA (constE (.int 1)) (consA (constE (.int 90)) nilA)))))) nilA)))))
    (consS (setS 7 (op2 (addD false) (varE 7) (lstE false (consA (op2 (addD false) (slE false (varE 3) noP (someP (varE 5))) (varE 3)) (consA (op2 (addD false) (constE (.str [32])) (varE 3)) nilA)))))
    (consS (setS 7 (op2 (addD false) (varE 7) (lstE false (consA (replNE [32] [32, 48] 1 (varE 3)) (consA (replNE [32] [32, 32] 1 (varE 3)) (consA (op2 (addD false) (op2 mulS2D (constE (.str [49])) (op2 modD (varE 2) (constE (.int 12)))) (varE 3)) (consA (constE (.str [])) nilA)))))))
    (forS (seqI (varE 7)) (nameG 8)
    Q_law_1)))))))))
def B_law : DS0 :=
  (consS (forS (callI zipF (consA (slKE false (varE 0) noP (someP (constE (.int 16))) 2) (consA (slKE false (varE 0) (someP (constE (.int 1))) (someP (constE (.int 16))) 2) nilA))) (tupG 2 (consG (nameG 1) (consG (nameG 2) nilG)))
    Q_law_2)
    (retS (constE (.bl true))))
def fn_law : Fn := runFn 9 B_law
end Lk04
set_option linter.all false
set_option maxRecDepth 100000
set_option maxHeartbeats 4000000
namespace Lk04
open Dn PySem
/-! ### the program's reader of any text -/
def rdT (t : Tx) : Option (Nat × Nat × Nat × Tx × Tx) :=
  match cutA t with
  | none => none
  | some (a, t1) => match cutA t1 with
    | none => none
    | some (b, t2) => match cutA t2 with
      | none => none
      | some (c, t3) => match cutA t3 with
        | none => none
        | some (d, w) => (rrP a b c d w).map fun q => (q.1, q.2.1, q.2.2.1, q.2.2.2, w)
abbrev TR : DS0 := tryFS 1 2 (setS 8 (fnE 1 (closeFn fn_read_level) (consA (op2 ixD (varE 1) (constE (.int 2))) nilA)))
theorem RB_f : B_read_row_f = RB TR := rfl
theorem lv_f (c : Tx) : LvOk TR c := by
  have hr := fun O => rd_ok c O
  refine ⟨fun l a b d x0 x2 x3 x4 x5 x6 x7 hl => ?_, fun a b d x0 x2 x3 x4 x5 x6 x7 hl => ?_⟩
  · have i2 := ix4 (a := a) (b := b) (c := c) (d := d) (i := 2) (e := .str c) (by simp) x0 x2 x3 x4 x5 x6 x7 none none
    rw [hl] at hr
    simp only [TR, tryFS, ev_setS, ev_fnE, ev_consA, ev_nilA, i2, bind_ok', List.length_cons, List.length_nil, Nat.zero_add, if_true, hr, bindS_ok', List.set]
  · have i2 := ix4 (a := a) (b := b) (c := c) (d := d) (i := 2) (e := .str c) (by simp) x0 x2 x3 x4 x5 x6 x7 none none
    rw [hl] at hr
    refine ⟨[x0, some (.ob 0), x2, x3, x4, x5, x6, x7, none, none], ?_⟩
    simp only [TR, tryFS, ev_setS, ev_fnE, ev_consA, ev_nilA, i2, bind_ok', List.length_cons, List.length_nil, Nat.zero_add, if_true, hr, bindS_ex']
/-- an error in the rounds is the row's -/
theorem rb_no {T : D} {r' : Rho} {O' : Sto} (h : forL (nameG 3) Lib.Q_read_row_1 [] [.int 0, .int 1, .int 2, .int 3] [some T, some (.ob 0), some T, none, none, none, none, none, none, none] [.lst []] = .exc ⟨2, []⟩ r' O') :
    runFn 10 (RB TR) [T] [] = .exc ⟨2, []⟩ O' := by
  have hr4 : rangeD 0 4 = [.int 0, .int 1, .int 2, .int 3] := rfl
  have hf4 : fits 4 = true := by decide
  have hB : RB TR [some T, none, none, none, none, none, none, none, none, none] [] = .exc ⟨2, []⟩ r' O' := by
    unfold RB
    refine cs_nx (r1 := [some T, some (.ob 0), none, none, none, none, none, none, none, none]) (O1 := [.lst []]) (by simp) ?_
    refine cs_nx (r1 := [some T, some (.ob 0), some T, none, none, none, none, none, none, none]) (O1 := [.lst []]) (by simp) ?_
    refine cs_exc ?_
    simp only [ev_forS, ev_callI, ev_consA, ev_const, ev_nilA, bind_ok', range1_int, hf4, if_true, hr4, bindS_ok', h]
  simp [runFn_eq, hB]
theorem row_f_ok (t : Tx) (ht : t.length ≤ 1000) (O : Sto) : closeFn fn_read_row_f [.str t] O = match rdT t with | some (n, m, l, nm, w) => .ok (.tup [.int n, recD m l nm w]) O | none => .exc ⟨2, []⟩ O := by
  have key : ∃ O', fn_read_row_f [.str t] [] = match rdT t with | some (n, m, l, nm, w) => .ok (.tup [.int n, recD m l nm w]) O' | none => .exc ⟨2, []⟩ O' := by
    unfold fn_read_row_f
    rw [RB_f]
    unfold rdT
    cases q1 : cutA t with
    | none =>
      obtain ⟨r', g⟩ := read_gapless (.str t) t (cutA_none q1) (by omega) [.lst []] (some (.ob 0)) (some (.int 0)) none none none none none none
      exact ⟨_, rb_no (r' := r') (O' := [.lst []]) (by simp only [forL, still_nil, if_true, ev_nameG, List.set, g])⟩
    | some p =>
    obtain ⟨a, t1⟩ := p
    obtain ⟨rfl, ha⟩ := cutA_some q1
    dsimp only
    have p1 := read_part (.str (a ++ 32 :: t1)) a t1 ha (by omega) [] (by simp) (some (.int 0)) none none none none none none
    simp only [List.length_append, List.length_cons] at ht
    cases q2 : cutA t1 with
    | none =>
      obtain ⟨r', g⟩ := read_gapless (.str (a ++ 32 :: t1)) t1 (cutA_none q2) (by omega) [.lst [.str a]] (some (.ob 0)) (some (.int 1)) (some (.str a)) (some (.str [32])) none none none none
      refine ⟨_, rb_no (r' := r') (O' := [.lst [.str a]]) ?_⟩
      generalize hT : D.str (a ++ 32 :: t1) = T at *
      simp only [List.nil_append] at p1
      subst hT
      simp only [forL, still_nil, if_true, ev_nameG, List.set, p1, g]
    | some p =>
    obtain ⟨b, t2⟩ := p
    obtain ⟨rfl, hb⟩ := cutA_some q2
    dsimp only
    simp only [List.length_append, List.length_cons] at ht
    have p2 := read_part (.str (a ++ 32 :: (b ++ 32 :: t2))) b t2 hb (by simp; omega) [.str a] (by simp) (some (.int 1)) (some (.str a)) (some (.str [32])) none none none none
    cases q3 : cutA t2 with
    | none =>
      obtain ⟨r', g⟩ := read_gapless (.str (a ++ 32 :: (b ++ 32 :: t2))) t2 (cutA_none q3) (by omega) [.lst [.str a, .str b]] (some (.ob 0)) (some (.int 2)) (some (.str b)) (some (.str [32])) none none none none
      refine ⟨_, rb_no (r' := r') (O' := [.lst [.str a, .str b]]) ?_⟩
      simp only [List.nil_append, List.cons_append, List.singleton_append] at p1 p2
      simp only [forL, still_nil, if_true, ev_nameG, List.set, p1, p2, g]
    | some p =>
    obtain ⟨c, t3⟩ := p
    obtain ⟨rfl, hc⟩ := cutA_some q3
    dsimp only
    simp only [List.length_append, List.length_cons] at ht
    have p3 := read_part (.str (a ++ 32 :: (b ++ 32 :: (c ++ 32 :: t3)))) c t3 hc (by simp; omega) [.str a, .str b] (by simp) (some (.int 2)) (some (.str b)) (some (.str [32])) none none none none
    cases q4 : cutA t3 with
    | none =>
      obtain ⟨r', g⟩ := read_gapless (.str (a ++ 32 :: (b ++ 32 :: (c ++ 32 :: t3)))) t3 (cutA_none q4) (by omega) [.lst [.str a, .str b, .str c]] (some (.ob 0)) (some (.int 3)) (some (.str c)) (some (.str [32])) none none none none
      refine ⟨_, rb_no (r' := r') (O' := [.lst [.str a, .str b, .str c]]) ?_⟩
      simp only [List.nil_append, List.cons_append, List.singleton_append] at p1 p2 p3
      simp only [forL, still_nil, if_true, ev_nameG, List.set, p1, p2, p3, g]
    | some p =>
    obtain ⟨d, w⟩ := p
    obtain ⟨rfl, hd⟩ := cutA_some q4
    dsimp only
    simp only [List.length_append, List.length_cons] at ht
    have h := rr_parts (w := w) ha hb hc hd (by simp; omega) (lv_f c)
    refine ⟨P4 a b c d, ?_⟩
    rw [h]
    cases rrP a b c d w with
    | none => rfl
    | some q => obtain ⟨n, m, l, nm⟩ := q; rfl
  obtain ⟨O', key⟩ := key
  cases q : rdT t with
  | none => rw [q] at key; exact close_exc rfl key rfl
  | some p => obtain ⟨n, m, l, nm, w⟩ := p; rw [q] at key; exact close_ok rfl key rfl
/-! ### by hand -/
theorem spl32 (acc : Tx) (c : Nat) (r : Tx) : TL.spl [32] 0 acc (c :: r) = if c = 32 then acc :: TL.spl [32] 0 [] r else TL.spl [32] 0 (acc ++ [c]) r := by
  by_cases h : c = 32
  · subst h
    rw [if_pos rfl, TL.spl_hit (by simp [TL.pre])]
    rfl
  · rw [if_neg h, TL.spl_miss (by simp [TL.pre, h])]
theorem spl_no {t : Tx} (h : cutA t = none) : ∀ acc, TL.spl [32] 0 acc t = [acc ++ t] := by
  induction t with
  | nil => intro acc; rw [TL.spl_nil]; simp
  | cons c r ih =>
    intro acc
    unfold cutA at h
    split at h
    · cases h
    · rename_i e
      rw [spl32, if_neg e, ih (by simpa using h)]
      simp
theorem spl_yes : ∀ {t a b : Tx}, cutA t = some (a, b) → ∀ acc, TL.spl [32] 0 acc t = (acc ++ a) :: TL.spl [32] 0 [] b
  | [], a, b, h => by cases h
  | c :: r, a, b, h => by
    intro acc
    unfold cutA at h
    split at h
    · rename_i e
      cases h
      rw [spl32, if_pos e]; simp
    · rename_i e
      cases z : cutA r with
      | none => rw [z] at h; cases h
      | some p =>
        rw [z] at h
        cases h
        rw [spl32, if_neg e, spl_yes (a := p.1) (b := p.2) z]
        simp
theorem spl_ne32 (l : Tx) : ∀ acc, TL.spl [32] 0 acc l ≠ [] := by
  induction l with
  | nil => intro acc; rw [TL.spl_nil]; simp
  | cons c r ih => intro acc; rw [spl32]; split; · simp
                   exact ih _
theorem join_spl (l : Tx) : ∀ acc, TL.joinL [32] (TL.spl [32] 0 acc l) = acc ++ l := by
  induction l with
  | nil => intro acc; rw [TL.spl_nil]; simp [TL.joinL]
  | cons c r ih =>
    intro acc
    rw [spl32]
    split
    · rename_i hc
      subst hc
      have h2 := ih []
      have h3 := spl_ne32 r []
      cases e : TL.spl [32] 0 [] r with
      | nil => exact absurd e h3
      | cons p ps => rw [e] at h2; simp [TL.joinL, h2]
    · rw [ih]; simp
theorem spl_sum (l : Tx) : ∀ acc, ((TL.spl [32] 0 acc l).map (·.length)).sum + (TL.spl [32] 0 acc l).length ≤ acc.length + l.length + 1 := by
  induction l with
  | nil => intro acc; rw [TL.spl_nil]; simp
  | cons c r ih =>
    intro acc
    rw [spl32]
    split
    · have := ih []
      simp at this ⊢; omega
    · have := ih (acc ++ [c])
      simp at this ⊢; omega
def nD : Option Nat → D | some n => .int n | none => .non
theorem find10 (c : Nat) (hc : 48 ≤ c ∧ c ≤ 57) (O : Sto) : find1F (.str [48, 49, 50, 51, 52, 53, 54, 55, 56, 57]) [.str [c]] O = .ok (.int ((c - 48 : Nat) : Int)) O := by
  obtain ⟨h1, h2⟩ := hc
  have : c = 48 ∨ c = 49 ∨ c = 50 ∨ c = 51 ∨ c = 52 ∨ c = 53 ∨ c = 54 ∨ c = 55 ∨ c = 56 ∨ c = 57 := by omega
  rcases this with rfl | rfl | rfl | rfl | rfl | rfl | rfl | rfl | rfl | rfl <;> rfl
theorem num_loop (t : Tx) (O : Sto) : ∀ (rest pre : Tx) (x1 : Option D), (∀ c ∈ rest, 48 ≤ c ∧ c ≤ 57) → ∃ y1,
    forL (nameG 1) Q__law_number_1 [] (rest.map fun c => D.str [c]) [some (.str t), x1, some (.int (NumText.digitsVal pre : Nat))] O = .nx [some (.str t), y1, some (.int (NumText.digitsVal (pre ++ rest) : Nat))] O
  | [], pre, x1, _ => ⟨x1, by simp [forL]⟩
  | c :: rest, pre, x1, h => by
    have hc := h c (by simp)
    obtain ⟨y1, ih⟩ := num_loop t O rest (pre ++ [c]) (some (.str [c])) (fun d hd => h d (by simp [hd]))
    refine ⟨y1, ?_⟩
    have hf := find10 c hc
    have e1 : NumText.digitsVal (pre ++ [c]) = NumText.digitsVal pre * 10 + (c - 48) := dv_app pre c
    have hm : mulOk 10 ((NumText.digitsVal pre : Nat) : Int) = true := by generalize ((NumText.digitsVal pre : Nat) : Int) = z; unfold mulOk; rfl
    have hb : Q__law_number_1 [some (.str t), some (.str [c]), some (.int (NumText.digitsVal pre : Nat))] O = .nx [some (.str t), some (.str [c]), some (.int (NumText.digitsVal (pre ++ [c]) : Nat))] O := by
      rw [e1]
      have e2 : ((NumText.digitsVal pre * 10 + (c - 48) : Nat) : Int) = 10 * ((NumText.digitsVal pre : Nat) : Int) + ((c - 48 : Nat) : Int) := by omega
      rw [e2]
      generalize ((c - 48 : Nat) : Int) = k at hf ⊢
      generalize ((NumText.digitsVal pre : Nat) : Int) = z at hm ⊢
      simp [Q__law_number_1, tyStr, hf, hm]
    rw [List.map_cons]
    unfold forL
    simp only [still_nil, if_true, ev_nameG, List.set, hb]
    rw [show pre ++ c :: rest = pre ++ [c] ++ rest by simp]
    exact ih
theorem number_ok (t : Tx) (ht : t.length ≤ 100000) (O : Sto) : closeFn fn__law_number [.str t] O = .ok (nD (figT t)) O := by
  have hs : sizeLine = 16777216 := sizeLine_nat
  have z1 : t.length ≤ 16777216 := by omega
  refine close_ok (O' := []) rfl ?_ (by cases figT t <;> rfl)
  have lc := lcL_filter (t := nameG 1) (c := cmpT (inB true) (varE 1) (constE (.str [48, 49, 50, 51, 52, 53, 54, 55, 56, 57]))) (el := varE 1) (st := []) (r := [some (.str t), none, none]) (O := []) (fun c : Nat => D.str [c]) (fun c : Nat => D.str [c]) (fun c => !isFig c) rfl t []
    (fun c hc => ⟨_, rfl, by
      have := figs_isFig c
      simp only [figs10] at this
      simp only [ev_cmpT, ev_var', List.set, List.getElem?_cons_succ, List.getElem?_cons_zero, bind_ok', ev_const, op_inS, sub_one, this, ev_asB]
      simp, rfl⟩) (by rw [hs]; simp; omega)
  rw [List.nil_append] at lc
  unfold figT
  by_cases q1 : 1 ≤ t.length
  · by_cases q2 : t.length ≤ 9
    · have p1 : (1 : Int) ≤ t.length := by omega
      have p2 : (t.length : Int) ≤ 9 := by omega
      cases q3 : t.all isFig with
      | false =>
        have hne : ((t.filter fun c => !isFig c).map fun c => D.str [c]) ≠ [] := by
          rw [List.all_eq_false] at q3
          obtain ⟨c, hc, hf⟩ := q3
          have hm : c ∈ t.filter fun c => !isFig c := List.mem_filter.mpr ⟨hc, by simpa using hf⟩
          intro z
          rw [List.map_eq_nil_iff] at z
          rw [z] at hm
          cases hm
        generalize (t.filter fun c => !isFig c).map (fun c => D.str [c]) = F at lc hne
        have hne2 : F.isEmpty = false := by cases F with | nil => exact absurd rfl hne | cons => rfl
        rw [if_neg (by simp)]
        simp [fn__law_number, runFn_eq, B__law_number, hs, z1, p1, p2, wipeR, lc, hne, hne2, nD]
      | true =>
        have he : (t.filter fun c => !isFig c) = [] := by
          rw [List.filter_eq_nil_iff]
          intro c hc
          simp [List.all_eq_true.mp q3 c hc]
        rw [he] at lc
        simp only [List.map_nil] at lc
        have hdig : ∀ x ∈ t, 48 ≤ x ∧ x ≤ 57 := fun x hx => by
          have := List.all_eq_true.mp q3 x hx
          simpa [isFig] using this
        obtain ⟨y1, lp⟩ := num_loop t [] t [] none hdig
        have e0 : NumText.digitsVal ([] : Tx) = 0 := rfl
        rw [e0, List.nil_append] at lp
        have hsw : ∀ O, startswithF (.str t) [.str [48]] O = .ok (.bl (t.head? == some 48)) O := fun O => by
          cases t with
          | nil => simp at q1
          | cons a r => simp [startswithF, List.isPrefixOf]
        by_cases q5 : t.head? = some 48 ∧ 1 < t.length
        · rw [if_neg (fun h => h.2.2.2 q5)]
          have hne : (t == [48]) = false := by
            rw [beq_eq_false_iff_ne]
            intro z
            rw [z] at q5
            simp at q5
          have hne2 : t ≠ [48] := by intro z; rw [z] at q5; simp at q5
          simp [fn__law_number, runFn_eq, B__law_number, hs, z1, p1, p2, wipeR, lc, tyStr, hsw, q5.1, hne, hne2, nD]
        · rw [if_pos ⟨q1, q2, rfl, q5⟩]
          by_cases q6 : t.head? = some 48
          · have hz : t = [48] := by
              have h1 : ¬ 1 < t.length := fun h => q5 ⟨q6, h⟩
              cases t with
              | nil => simp at q1
              | cons c r =>
                cases r with
                | nil => simp at q6; rw [q6]
                | cons c2 r => simp at h1
            subst hz
            have e48 : NumText.digitsVal ([48] : Tx) = 0 := rfl
            rw [e48] at lp ⊢
            simp only [List.map_cons, List.map_nil] at lp lc
            rw [show (((0 : Nat) : Nat) : Int) = 0 from rfl] at lp
            simp [fn__law_number, runFn_eq, B__law_number, hs, wipeR, lc, tyStr, hsw, nD, lp]
          · have q7 : (t.head? == some 48) = false := by simpa using q6
            rw [show (((0 : Nat) : Nat) : Int) = 0 from rfl] at lp
            simp [fn__law_number, runFn_eq, B__law_number, hs, z1, p1, p2, wipeR, lc, tyStr, hsw, q7, q6, nD, lp]
    · rw [if_neg (fun h => q2 h.2.1)]
      simp [fn__law_number, runFn_eq, B__law_number, hs, z1, show (1 : Int) ≤ t.length by omega, show ¬ (t.length : Int) ≤ 9 by omega, nD]
  · rw [if_neg (fun h => q1 h.1)]
    simp [fn__law_number, runFn_eq, B__law_number, hs, z1, show ¬ (1 : Int) ≤ t.length by omega, nD]
/-! the whole walk -/
abbrev E11 (x0 x1 x2 x3 x4 x6 x7 x8 x9 : Option D) : Rho := [x0, x1, x2, x3, x4, none, x6, x7, x8, x9, none]
theorem part_loop (nm : Tx) (x0 x1 x2 x3 x4 x6 : Option D) (O : Sto) : ∀ (ps : List Tx) (x8 x9 : Option D), (∀ p ∈ ps, p.length ≤ 10000) → ∃ y8 y9,
    forL (nameG 8) Q__law_parsed_1 [] (ps.map D.str) (E11 x0 x1 x2 x3 x4 x6 (some (.str nm)) x8 x9) O = if nm ≠ [42] ∧ ps.all good = false then .ret .non O else .nx (E11 x0 x1 x2 x3 x4 x6 (some (.str nm)) y8 y9) O
  | [], x8, x9, _ => ⟨x8, x9, by simp [forL]⟩
  | p :: ps, x8, x9, h => by
    have hs : sizeLine = 16777216 := sizeLine_nat
    have hp := h p (by simp)
    have z1 : p.length ≤ 16777216 := by omega
    have lc := lcL_filter (t := nameG 10) (c := cmpT (inB true) (varE 10) (constE (.str SG))) (el := varE 10) (st := []) (r := E11 x0 x1 x2 x3 x4 x6 (some (.str nm)) (some (.str p)) x9) (O := O) (fun c : Nat => D.str [c]) (fun c : Nat => D.str [c]) (fun c => !inSg c) rfl p []
      (fun c hc => ⟨_, rfl, by
        simp only [ev_cmpT, ev_var', List.set, List.getElem?_cons_succ, List.getElem?_cons_zero, bind_ok', ev_const, op_inS, ev_asB, inSg]
        simp, rfl⟩) (by rw [hs]; simp; omega)
    rw [List.nil_append] at lc
    have hemp : ((p.filter fun c => !inSg c).map fun c => D.str [c]).isEmpty = p.all inSg := by
      rw [Bool.eq_iff_iff]
      simp
    have hb : ∃ b9, Q__law_parsed_1 (E11 x0 x1 x2 x3 x4 x6 (some (.str nm)) (some (.str p)) x9) O = if nm ≠ [42] ∧ good p = false then .ret .non O else .nx (E11 x0 x1 x2 x3 x4 x6 (some (.str nm)) (some (.str p)) b9) O := by
      generalize hF : (p.filter fun c => !inSg c).map (fun c => D.str [c]) = F at lc hemp
      refine ⟨some (.lst F), ?_⟩
      have e9 : setS 9 (lcE false (seqI (varE 8)) (nameG 10) (cmpT (inB true) (varE 10) (constE (.str SG))) (varE 10) [10]) (E11 x0 x1 x2 x3 x4 x6 (some (.str nm)) (some (.str p)) x9) O = .nx (E11 x0 x1 x2 x3 x4 x6 (some (.str nm)) (some (.str p)) (some (.lst F))) O := by
        have hw : wipeR (E11 x0 x1 x2 x3 x4 x6 (some (.str nm)) (some (.str p)) x9) [10] = E11 x0 x1 x2 x3 x4 x6 (some (.str nm)) (some (.str p)) x9 := rfl
        rw [ev_setS, ev_lcE, ev_seqI]
        simp only [ev_var', List.getElem?_cons_succ, List.getElem?_cons_zero, bind_ok', src_str, hw, lc, ev_mkF, bindS_ok', List.set]
      unfold Q__law_parsed_1
      refine cs_nx e9 ?_
      by_cases q1 : nm = [42]
      · subst q1; simp
      · unfold good
        rw [← hemp]
        cases q2 : F.isEmpty with
        | false => simp [q1, q2]
        | true =>
          by_cases q3 : 1 ≤ p.length
          · by_cases q4 : p.length ≤ 8
            · simp [q1, q2, hs, z1, q3, q4, show (1 : Int) ≤ p.length by omega, show (p.length : Int) ≤ 8 by omega]
            · simp [q1, q2, hs, z1, q3, q4, show (1 : Int) ≤ p.length by omega, show ¬ (p.length : Int) ≤ 8 by omega]
          · simp [q1, q2, hs, z1, q3, show ¬ (1 : Int) ≤ p.length by omega]
    obtain ⟨b9, hb⟩ := hb
    obtain ⟨y8, y9, ih⟩ := part_loop nm x0 x1 x2 x3 x4 x6 O ps (some (.str p)) b9 (fun q hq => h q (by simp [hq]))
    refine ⟨y8, y9, ?_⟩
    rw [List.map_cons]
    unfold forL
    simp only [still_nil, if_true, ev_nameG, List.set, hb]
    by_cases q : nm ≠ [42] ∧ good p = false
    · rw [if_pos q, if_pos ⟨q.1, by simp [q.2]⟩]
    · rw [if_neg q]
      simp only [ih]
      by_cases q5 : nm = [42]
      · simp [q5]
      · have : good p = true := by
          cases e : good p with
          | true => rfl
          | false => exact absurd ⟨q5, e⟩ q
        simp [this]
theorem head_fst (c : Tx) : ((List.range' 0 100).filter fun j => lw j == c).head? = fst c 0 100 := by
  rw [List.head?_filter]; rfl
theorem sum_drop (ps : List Tx) (k : Nat) : ((ps.drop k).map (·.length)).sum + (ps.drop k).length ≤ (ps.map (·.length)).sum + ps.length := by
  induction ps generalizing k with
  | nil => simp
  | cons p ps ih =>
    cases k with
    | zero => simp
    | succ k =>
      have := ih k
      simp only [List.drop_succ_cons, List.map_cons, List.sum_cons, List.length_cons]
      omega
def pD : Option (Nat × Nat × Nat × Tx × Tx) → D
  | some (n, m, l, nm, w) => .tup [.int n, recD m l nm w]
  | none => .non
theorem few {t : Tx} (ht : t.length ≤ 1000) (h : (TL.spl [32] 0 [] t).length < 5) (O : Sto) : closeFn fn__law_parsed [.str t] O = .ok .non O := by
  have hs : sizeLine = 16777216 := sizeLine_nat
  refine close_ok (O' := []) rfl ?_ rfl
  have sp : splitF false (.str t) [.str [32]] [] = .ok (.lst ((TL.spl [32] 0 [] t).map D.str)) [] := by simp [splitF, show t.length ≤ 16000000 by omega]
  have hl : ((TL.spl [32] 0 [] t).length : Int) < 5 := by omega
  generalize TL.spl [32] 0 [] t = S at *
  have hB : B__law_parsed [some (.str t), none, none, none, none, none, none, none, none, none, none] [] = .ret .non [] := by
    unfold B__law_parsed
    refine cs_nx (r1 := [some (.str t), some (.lst (S.map D.str)), none, none, none, none, none, none, none, none, none]) (O1 := []) (by simp [tyStr, sp]) ?_
    refine cs_ret ?_
    refine if_t (O1 := []) (by simp [hl]) ?_
    simp
  simp [fn__law_parsed, runFn_eq, hB]
theorem parsed4 {a b c d w : Tx} (hl : (a ++ 32 :: (b ++ 32 :: (c ++ 32 :: (d ++ 32 :: w)))).length ≤ 1000) (hsp : TL.spl [32] 0 [] (a ++ 32 :: (b ++ 32 :: (c ++ 32 :: (d ++ 32 :: w)))) = a :: b :: c :: d :: TL.spl [32] 0 [] w) (O : Sto) :
    closeFn fn__law_parsed [.str (a ++ 32 :: (b ++ 32 :: (c ++ 32 :: (d ++ 32 :: w))))] O = .ok (pD ((rrP a b c d w).map fun q => (q.1, q.2.1, q.2.2.1, q.2.2.2, w))) O := by
  have hs : sizeLine = 16777216 := sizeLine_nat
  have sp : splitF false (.str (a ++ 32 :: (b ++ 32 :: (c ++ 32 :: (d ++ 32 :: w))))) [.str [32]] [] = .ok (.lst (.str a :: .str b :: .str c :: .str d :: (TL.spl [32] 0 [] w).map D.str)) [] := by
    simp only [splitF, hsp]
    rw [if_pos (by simp at hl ⊢; omega)]
    rfl
  have hne := spl_ne32 w []
  have hjn := join_spl w []
  have hsum := spl_sum w []
  have n1 := number_ok a (by simp at hl; omega)
  have n2 := number_ok b (by simp at hl; omega)
  have hdl : d.length ≤ 1000 := by simp at hl; omega
  have hwl : w.length ≤ 1000 := by simp at hl; omega
  have spd := split_dot d [] (by omega)
  generalize a ++ 32 :: (b ++ 32 :: (c ++ 32 :: (d ++ 32 :: w))) = T at *
  generalize TL.spl [32] 0 [] w = S at *
  have hSl : 1 ≤ S.length := by cases S with | nil => exact absurd rfl hne | cons => simp
  rw [List.nil_append] at hjn
  simp only [List.length_nil] at hsum
  have jj : joinF (.str [32]) [.lst (S.map D.str)] [] = .ok (.str w) [] := by
    have := join_lst [32] S [] (by simp; omega)
    rw [hjn] at this
    exact this
  have h100 : rangeD 0 100 = (List.range' 0 100).map fun j : Nat => D.int j := by
    simp only [rangeD, List.range_eq_range']
    simp
  have hf : fits 100 = true := by decide
  have cut4 : cutD (D.str a :: D.str b :: D.str c :: D.str d :: S.map D.str) (some 4) none = S.map D.str := by
    have := cut_dropN (D.str a :: D.str b :: D.str c :: D.str d :: S.map D.str) 4
    simpa using this
  generalize hP : D.str a :: D.str b :: D.str c :: D.str d :: S.map D.str = P at *
  have g0 : ∀ O, ixD (.lst P) (.int 0) O = .ok (.str a) O := fun O => by rw [← hP]; simp
  have g1 : ∀ O, ixD (.lst P) (.int 1) O = .ok (.str b) O := fun O => by rw [← hP]; simp
  have g2 : ∀ O, ixD (.lst P) (.int 2) O = .ok (.str c) O := fun O => by rw [← hP]; simp
  have g3 : ∀ O, ixD (.lst P) (.int 3) O = .ok (.str d) O := fun O => by rw [← hP]; simp
  have hPl : ¬ (P.length : Int) < 5 := by rw [← hP]; simp; omega
  have lc := lcL_filter (t := nameG 5) (c := cmpT eqD (fnE 1 (closeFn fn__law_level) (consA (varE 5) nilA)) (op2 ixD (varE 1) (constE (.int 2)))) (el := varE 5) (st := []) (r := [some (.str T), some (.lst P), some (nD (figT a)), some (nD (figT b)), none, none, none, none, none, none, none]) (O := []) (fun j : Nat => D.int j) (fun j : Nat => D.int j) (fun j => lw j == c) rfl (List.range' 0 100) []
    (fun j hj => ⟨_, rfl, by
      have h1 := (lw_ok j (by have := (List.mem_range'_1.mp hj).2; omega) []).2.1
      simp [h1, g2, -ix_lstI], rfl⟩) (by rw [hs]; simp)
  rw [List.nil_append] at lc
  have hfst := head_fst c
  generalize hL : ((List.range' 0 100).filter fun j => lw j == c) = L at lc hfst
  obtain ⟨y8, y9, lp⟩ := part_loop d (some (.str T)) (some (.lst P)) (some (nD (figT a))) (some (nD (figT b))) (some (.lst (L.map fun j : Nat => D.int j))) (some (.str w)) [] (pts d) none none (fun p hp => by have := pts_mem_len hp; omega)
  have hptl := pts_len (x := d)
  refine close_ok (O' := []) rfl ?_ (by unfold rrP; cases figT a <;> (try rfl); cases figT b <;> (try rfl); cases fst c 0 100 <;> (try rfl); dsimp only; split <;> (try rfl); split <;> rfl)
  suffices hB : B__law_parsed [some (.str T), none, none, none, none, none, none, none, none, none, none] [] = .ret (pD ((rrP a b c d w).map fun q => (q.1, q.2.1, q.2.2.1, q.2.2.2, w))) [] by
    simp [fn__law_parsed, runFn_eq, hB]
  unfold B__law_parsed
  refine cs_nx (r1 := [some (.str T), some (.lst P), none, none, none, none, none, none, none, none, none]) (O1 := []) (by simp [tyStr, sp]) ?_
  refine cs_nx (r1 := [some (.str T), some (.lst P), none, none, none, none, none, none, none, none, none]) (O1 := []) (if_f (O1 := []) (by simp [hPl]) (by simp)) ?_
  refine cs_nx (r1 := [some (.str T), some (.lst P), some (nD (figT a)), none, none, none, none, none, none, none, none]) (O1 := []) (by simp [g0, n1, -ix_lstI]) ?_
  refine cs_nx (r1 := [some (.str T), some (.lst P), some (nD (figT a)), some (nD (figT b)), none, none, none, none, none, none, none]) (O1 := []) (by simp [g1, n2, -ix_lstI]) ?_
  refine cs_nx (r1 := [some (.str T), some (.lst P), some (nD (figT a)), some (nD (figT b)), some (.lst (L.map fun j : Nat => D.int j)), none, none, none, none, none, none]) (O1 := []) (by
    have hw : wipeR [some (.str T), some (.lst P), some (nD (figT a)), some (nD (figT b)), none, none, none, none, none, none, none] [5] = [some (.str T), some (.lst P), some (nD (figT a)), some (nD (figT b)), none, none, none, none, none, none, none] := rfl
    rw [ev_setS, ev_lcE, ev_callI]
    simp only [ev_consA, ev_const, ev_nilA, bind_ok', range1_int, hf, if_true, h100, hw, lc, ev_mkF, bindS_ok', List.set]) ?_
  refine cs_nx (r1 := [some (.str T), some (.lst P), some (nD (figT a)), some (nD (figT b)), some (.lst (L.map fun j : Nat => D.int j)), none, some (.str w), none, none, none, none]) (O1 := []) (by simp [cut4, tyStr, jj]) ?_
  refine cs_nx (r1 := E11 (some (.str T)) (some (.lst P)) (some (nD (figT a))) (some (nD (figT b))) (some (.lst (L.map fun j : Nat => D.int j))) (some (.str w)) (some (.str d)) none none) (O1 := []) (by simp [g3, -ix_lstI]) ?_
  have hfor : forS (seqI (bmE tyStr (splitF false) (varE 7) (consA (constE (.str [46])) nilA))) (nameG 8) Q__law_parsed_1 (E11 (some (.str T)) (some (.lst P)) (some (nD (figT a))) (some (nD (figT b))) (some (.lst (L.map fun j : Nat => D.int j))) (some (.str w)) (some (.str d)) none none) [] = forL (nameG 8) Q__law_parsed_1 [] ((pts d).map D.str) (E11 (some (.str T)) (some (.lst P)) (some (nD (figT a))) (some (nD (figT b))) (some (.lst (L.map fun j : Nat => D.int j))) (some (.str w)) (some (.str d)) none none) [] := by
    rw [ev_forS, ev_seqI, ev_bmE]
    simp only [ev_var', List.getElem?_cons_succ, List.getElem?_cons_zero, bind_ok', tyStr, if_true, ev_consA, ev_const, ev_nilA, spd, src_lst, bindS_ok']
  have hbadnm : d ≠ [42] ∧ (pts d).all good = false → d = [] ∨ isNm d = false := fun ⟨_, h⟩ => by
    by_cases h0 : d = []
    · exact .inl h0
    · right; unfold isNm; rw [h, beq_eq_false_iff_ne.mpr h0]; simp
  by_cases q0 : d ≠ [42] ∧ (pts d).all good = false
  · refine cs_ret (d := .non) (O1 := []) ?_ |>.trans ?_
    · rw [hfor, lp, if_pos q0]
    · have : rrP a b c d w = none := by
        unfold rrP
        cases figT a with
        | none => rfl
        | some n => cases figT b with
          | none => rfl
          | some m => cases fst c 0 100 with
            | none => rfl
            | some l => dsimp only; rw [if_pos ⟨q0.1, hbadnm q0⟩]
      rw [this]; rfl
  · refine cs_nx (r1 := E11 (some (.str T)) (some (.lst P)) (some (nD (figT a))) (some (nD (figT b))) (some (.lst (L.map fun j : Nat => D.int j))) (some (.str w)) (some (.str d)) y8 y9) (O1 := []) (by rw [hfor, lp, if_neg q0]) ?_
    unfold rrP
    cases q1 : figT a with
    | none => exact cs_ret (if_t (O1 := []) (by simp [nD]) (by simp [pD])) |>.trans rfl
    | some n =>
    by_cases q2 : n = 0
    · subst q2
      refine (cs_ret (d := .non) (O1 := []) (if_t (O1 := []) (by simp [nD]) (by simp))).trans ?_
      cases figT b with
      | none => rfl
      | some m => cases fst c 0 100 with
        | none => rfl
        | some l => dsimp only; split <;> rfl
    cases q3 : figT b with
    | none => exact cs_ret (if_t (O1 := []) (by simp [nD, q2]) (by simp [pD])) |>.trans rfl
    | some m =>
    cases q4 : fst c 0 100 with
    | none =>
      rw [q4] at hfst
      have hL0 : L = [] := by cases L with | nil => rfl | cons => cases hfst
      subst hL0
      exact cs_ret (if_t (O1 := []) (by simp [nD, q2]) (by simp [pD])) |>.trans rfl
    | some l =>
    rw [q4] at hfst
    obtain ⟨L', rfl⟩ : ∃ L', L = l :: L' := by cases L with | nil => cases hfst | cons x xs => simp at hfst; exact ⟨xs, by rw [hfst]⟩
    simp only [List.map_cons]
    generalize (L'.map fun j => D.int (j : Nat)) = LL
    by_cases q5 : 80 < w.length
    · refine (cs_ret (d := .non) (O1 := []) (if_t (O1 := []) (by simp [nD, q2, hs, show w.length ≤ 16777216 by omega, show (80 : Int) < w.length by omega]) (by simp))).trans ?_
      split
      · rfl
      · rw [if_pos (.inr q5)]; rfl
    refine cs_nx (r1 := E11 (some (.str T)) (some (.lst P)) (some (.int n)) (some (.int m)) (some (.lst (.int l :: LL))) (some (.str w)) (some (.str d)) y8 y9) (O1 := []) (if_f (O1 := []) (by simp [nD, q2, hs, show w.length ≤ 16777216 by omega, show ¬ (80 : Int) < w.length by omega]) (by simp [nD])) ?_
    have hn5 : ¬ (n = 0 ∨ 80 < w.length) := fun h => h.elim q2 q5
    by_cases q6 : 6 < (pts d).length
    · refine (cs_ret (d := .non) (O1 := []) (if_t (O1 := []) (by simp [tyStr, spd, show (6 : Int) < (pts d).length by omega]) (by simp))).trans ?_
      have h42 : d ≠ [42] := fun z => by subst z; simp [pts, TL.spl] at q6; revert q6; decide
      rw [if_pos ⟨h42, .inr (by
        unfold isNm
        by_cases h0 : d = []
        · subst h0; simp [pts, TL.spl] at q6
        · rw [beq_eq_false_iff_ne.mpr h0, decide_eq_false (by omega)]; simp)⟩]
      rfl
    refine cs_nx (r1 := E11 (some (.str T)) (some (.lst P)) (some (.int n)) (some (.int m)) (some (.lst (.int l :: LL))) (some (.str w)) (some (.str d)) y8 y9) (O1 := []) (if_f (O1 := []) (by simp [tyStr, spd, show ¬ (6 : Int) < (pts d).length by omega]) (by simp)) ?_
    by_cases q7 : d = [42]
    · subst q7
      refine cs_nx (r1 := E11 (some (.str T)) (some (.lst P)) (some (.int n)) (some (.int m)) (some (.lst (.int l :: LL))) (some (.str w)) (some (.str [])) y8 y9) (O1 := []) (by simp) ?_
      rw [if_neg (fun h => h.1 rfl), if_neg hn5, if_pos rfl]
      simp [pD, hs]
    · refine cs_nx (r1 := E11 (some (.str T)) (some (.lst P)) (some (.int n)) (some (.int m)) (some (.lst (.int l :: LL))) (some (.str w)) (some (.str d)) y8 y9) (O1 := []) (by simp [q7]) ?_
      have hok : ¬ (d ≠ [42] ∧ (d = [] ∨ isNm d = false)) := fun ⟨_, h⟩ => by
        have hall : (pts d).all good = true := by
          cases e : (pts d).all good with
          | true => rfl
          | false => exact absurd ⟨q7, e⟩ q0
        rcases h with h | h
        · subst h
          revert hall; decide
        · unfold isNm at h
          rw [hall, decide_eq_true (by omega)] at h
          simp at h
      rw [if_neg hok, if_neg hn5, if_neg q7]
      simp [pD, hs]
theorem parsed_ok (t : Tx) (ht : t.length ≤ 1000) (O : Sto) : closeFn fn__law_parsed [.str t] O = .ok (pD (rdT t)) O := by
  unfold rdT
  cases q1 : cutA t with
  | none => exact few ht (by rw [spl_no q1]; simp) O
  | some p =>
  obtain ⟨a, t1⟩ := p
  dsimp only
  have s1 := spl_yes q1 []
  cases q2 : cutA t1 with
  | none => exact few ht (by rw [s1, spl_no q2]; simp) O
  | some p =>
  obtain ⟨b, t2⟩ := p
  dsimp only
  have s2 := spl_yes q2 []
  cases q3 : cutA t2 with
  | none => exact few ht (by rw [s1, s2, spl_no q3]; simp) O
  | some p =>
  obtain ⟨c, t3⟩ := p
  dsimp only
  have s3 := spl_yes q3 []
  cases q4 : cutA t3 with
  | none => exact few ht (by rw [s1, s2, s3, spl_no q4]; simp) O
  | some p =>
  obtain ⟨d, w⟩ := p
  dsimp only
  have s4 := spl_yes q4 []
  obtain ⟨rfl, _⟩ := cutA_some q1
  obtain ⟨rfl, _⟩ := cutA_some q2
  obtain ⟨rfl, _⟩ := cutA_some q3
  obtain ⟨rfl, _⟩ := cutA_some q4
  exact parsed4 ht (by rw [s1, s2, s3, s4]; simp) O
/-! the law -/
theorem told_ok (t : Tx) (ht : t.length ≤ 1000) (O : Sto) : ∃ v, sameOk 100 v = true ∧ closeFn fn__law_told [.str t] O = .ok v O ∧ closeFn fn__law_or [pD (rdT t)] O = .ok v O := by
  have hr := row_f_ok t ht []
  cases q : rdT t with
  | none =>
    rw [q] at hr
    refine ⟨.str [114, 101, 102, 117, 115, 101, 100], rfl, close_ok (O' := []) rfl ?_ rfl, close_ok (O' := []) rfl ?_ rfl⟩
    · have hB : B__law_told [some (.str t), none] [] = .ret (.str [114, 101, 102, 117, 115, 101, 100]) [] := by
        unfold B__law_told
        refine cs_nx (r1 := [some (.str t), some .non]) (O1 := []) (by simp) ?_
        refine cs_nx (r1 := [some (.str t), some (.str [114, 101, 102, 117, 115, 101, 100])]) (O1 := []) (by simp [tryS, hr]) ?_
        simp
      simp [fn__law_told, runFn_eq, hB]
    · simp [LibC.fn__law_or, runFn_eq, LibC.B__law_or, pD]
  | some p =>
    obtain ⟨n, m, l, nm, w⟩ := p
    rw [q] at hr
    refine ⟨.tup [.int n, recD m l nm w], rfl, close_ok (O' := []) rfl ?_ rfl, close_ok (O' := []) rfl ?_ rfl⟩
    · have hB : B__law_told [some (.str t), none] [] = .ret (.tup [.int n, recD m l nm w]) [] := by
        unfold B__law_told
        refine cs_nx (r1 := [some (.str t), some .non]) (O1 := []) (by simp) ?_
        refine cs_nx (r1 := [some (.str t), some (.tup [.int n, recD m l nm w])]) (O1 := []) (by simp [tryS, hr]) ?_
        simp
      simp [fn__law_told, runFn_eq, hB]
    · simp [LibC.fn__law_or, runFn_eq, LibC.B__law_or, pD]
abbrev E9 (s c mo : D) (x3 x4 x5 x6 x7 x8 : Option D) : Rho := [some s, some c, some mo, x3, x4, x5, x6, x7, x8]
theorem one_ok (t : Tx) (ht : t.length ≤ 10000) (s c mo : D) (x3 x4 x5 x6 x7 : Option D) (O : Sto) : Q_law_1 (E9 s c mo x3 x4 x5 x6 x7 (some (.str t))) O = .nx (E9 s c mo x3 x4 x5 x6 x7 (some (.str t))) O := by
  have hs : sizeLine = 16777216 := sizeLine_nat
  have z : t.length ≤ 16777216 := by omega
  by_cases q : t.length ≤ 300
  · obtain ⟨v, h1, h2, h3⟩ := told_ok t (by omega) O
    have h4 := parsed_ok t (by omega) O
    have h5 := same_c 100 v O h1
    generalize pD (rdT t) = P at *
    simp [Q_law_1, hs, z, show (t.length : Int) ≤ 300 by omega, h2, h3, h4, h5]
  · simp [Q_law_1, hs, z, show ¬ (t.length : Int) ≤ 300 by omega]
theorem ix_strI (x : Tx) (i : Int) (h0 : 0 ≤ i) (h1 : i < x.length) (hx : x.length ≤ 1000000) (O : Sto) : ∃ c, ∀ O, ixD (.str x) (.int i) O = .ok (.str [c]) O := by
  have hz : x.length ≤ sizeLine := by rw [sizeLine_nat]; omega
  refine ⟨x[i.toNat]'(by omega), fun O => ?_⟩
  simp only [ixD]
  rw [if_pos hz]
  have : L2.ixN x.length i = some i.toNat := by unfold L2.ixN; rw [if_pos h0, if_pos h1]
  rw [this]
  have h2 : x[i.toNat]? = some (x[i.toNat]'(by omega)) := List.getElem?_eq_getElem (by omega)
  simp [h2]
theorem ones (k : Int) (x : Nat) (h1 : 0 ≤ k) (h2 : k ≤ 1000) : ∃ w : Tx, w.length ≤ 1000 ∧ ∀ O, mulS2D (.str [x]) (.int k) O = .ok (.str w) O := by
  refine ⟨List.replicate k.toNat x, by rw [List.length_replicate]; omega, fun O => ?_⟩
  simp only [mulS2D]
  rw [if_pos (by simp; omega)]
  simp
theorem round_ok (s : D) (c mo : Int) (x3 x4 x5 x6 x7 x8 : Option D) (O : Sto) : ∃ y3 y4 y5 y6 y7 y8, Q_law_2 (E9 s (.int c) (.int mo) x3 x4 x5 x6 x7 x8) O = .nx (E9 s (.int c) (.int mo) y3 y4 y5 y6 y7 y8) O := by
  have hs : sizeLine = 16777216 := sizeLine_nat
  have l1 : ∀ O, closeFn fn__law_d [.int c, .int 1, .int 5] O = .ok (.int (lawD c 1 5)) O := fun O => law_d_c c 1 5 O (by omega)
  have l2 : ∀ O, closeFn fn__law_d [.int c, .int 1, .int 2] O = .ok (.int (lawD c 1 2)) O := fun O => law_d_c c 1 2 O (by omega)
  have l3 : ∀ O, closeFn fn__law_d [.int c, .int 1, .int 90] O = .ok (.int (lawD c 1 90)) O := fun O => law_d_c c 1 90 O (by omega)
  have r1 := lawD_range c 1 5 (by omega)
  have r2 := lawD_range c 1 2 (by omega)
  have r3 := lawD_range c 1 90 (by omega)
  generalize lawD c 1 5 = d1 at l1 r1
  generalize lawD c 1 2 = d2 at l2 r2
  generalize lawD c 1 90 = d3 at l3 r3
  obtain ⟨m, l, name, words, R, er⟩ := record_ok c O
  have hnl := R.name.len
  have hwl := R.w
  obtain ⟨n, hn, en⟩ : ∃ n : Nat, n < 1000000000000 ∧ getI [D.int (c / 2 % 999999999 + 1), .int d1] d2 = some (.int n) := by
    rcases two_cases r2 with e | e
    · subst e
      exact ⟨(c / 2 % 999999999 + 1).toNat, by omega, by rw [getI_0, show ((c / 2 % 999999999 + 1).toNat : Int) = c / 2 % 999999999 + 1 by omega]⟩
    · subst e
      exact ⟨d1.toNat, by omega, by rw [getI_1, show (d1.toNat : Int) = d1 by omega]⟩
  have et := law_row_ok n m l name words hn (by have := R.m; omega) R.l (by omega) (by omega) O
  have hT : (rowT n m l name words).length ≤ 400 := by
    have g1 := num12 hn
    have g2 := num12 (show m < 1000000000000 by have := R.m; omega)
    have g3 := (lw_ok l R.l []).2.2
    have g4 : (star name).length ≤ 60 := by
      unfold star
      split
      · simp
      · exact hnl
    simp only [rowT, List.length_append, List.length_cons]
    omega
  have e3 : setS 3 (fnE 2 (closeFn fn__law_row) (consA (op2 ixD (lstE false (consA (op2 (addD false) (op2 modD (op2 fdivD (varE 1) (constE (.int 2))) (constE (.int 999999999))) (constE (.int 1))) (consA (fnE 3 (closeFn fn__law_d) (consA (varE 1) (consA (constE (.int 1)) (consA (constE (.int 5)) nilA)))) nilA))) (fnE 3 (closeFn fn__law_d) (consA (varE 1) (consA (constE (.int 1)) (consA (constE (.int 2)) nilA))))) (consA (fnE 1 (closeFn fn__law_record) (consA (varE 1) nilA)) nilA))) (E9 s (.int c) (.int mo) x3 x4 x5 x6 x7 x8) O = .nx (E9 s (.int c) (.int mo) (some (.str (rowT n m l name words))) x4 x5 x6 x7 x8) O := by
    simp [l1, l2, hs, en, er, et]
  generalize rowT n m l name words = T at *
  have zT : T.length ≤ 16777216 := by omega
  have hpos : (0 : Int) < (T.length : Int) + 1 := by omega
  obtain ⟨at', hat⟩ : ∃ a, mo % ((T.length : Int) + 1) = a := ⟨_, rfl⟩
  obtain ⟨ne', hne⟩ : ∃ a, mo / 7 % 30 % ((T.length : Int) + 1) = a := ⟨_, rfl⟩
  obtain ⟨sg, esg⟩ := ix_strI [32, 48, 42, 46, 43, 97, 122, 57, 65, 34, 45, 95] (mo / 11 % 12) (by omega) (by simp; omega) (by simp) O
  obtain ⟨X90, h90, e90⟩ := ones d3 120 r3.1 (by omega)
  obtain ⟨X12, h12, e12⟩ := ones (mo % 12) 49 (by omega) (by omega)
  obtain ⟨A, hA, lA⟩ : ∃ A, cutD T none (some at') = A ∧ A.length ≤ 400 := ⟨_, rfl, by have := cutD_len T none (some at'); omega⟩
  obtain ⟨B, hB, lB⟩ : ∃ A, cutD T (some at') none = A ∧ A.length ≤ 400 := ⟨_, rfl, by have := cutD_len T (some at') none; omega⟩
  obtain ⟨N, hN, lN⟩ : ∃ A, cutD T none (some ne') = A ∧ A.length ≤ 400 := ⟨_, rfl, by have := cutD_len T none (some ne'); omega⟩
  obtain ⟨M, hM, lM⟩ : ∃ A, cutD T (some (ne' + 1)) none = A ∧ A.length ≤ 400 := ⟨_, rfl, by have := cutD_len T (some (ne' + 1)) none; omega⟩
  have hr1 := replN_len T [32] [32, 48] 1
  have hr2 := replN_len T [32] [32, 32] 1
  obtain ⟨R1, hR1⟩ : ∃ A, replN T [32] [32, 48] 1 = A := ⟨_, rfl⟩
  obtain ⟨R2, hR2⟩ : ∃ A, replN T [32] [32, 32] 1 = A := ⟨_, rfl⟩
  rw [hR1] at hr1
  rw [hR2] at hr2
  simp only [List.length_cons, List.length_nil] at hr1 hr2
  have a1 : ∀ O, addD false (.str A) (.str [sg]) O = .ok (.str (A ++ [sg])) O := fun O => addS (by simp; omega)
  have a2 : ∀ O, addD false (.str (A ++ [sg])) (.str B) O = .ok (.str (A ++ [sg] ++ B)) O := fun O => addS (by simp; omega)
  have a3 : ∀ O, addD false (.str N) (.str [sg]) O = .ok (.str (N ++ [sg])) O := fun O => addS (by simp; omega)
  have a4 : ∀ O, addD false (.str (N ++ [sg])) (.str M) O = .ok (.str (N ++ [sg] ++ M)) O := fun O => addS (by simp; omega)
  have a5 : ∀ O, addD false (.str [48]) (.str T) O = .ok (.str ([48] ++ T)) O := fun O => addS (by simp; omega)
  have a6 : ∀ O, addD false (.str N) (.str M) O = .ok (.str (N ++ M)) O := fun O => addS (by omega)
  have a7 : ∀ O, addD false (.str T) (.str X90) O = .ok (.str (T ++ X90)) O := fun O => addS (by omega)
  have a8 : ∀ O, addD false (.str N) (.str T) O = .ok (.str (N ++ T)) O := fun O => addS (by omega)
  have a9 : ∀ O, addD false (.str [32]) (.str T) O = .ok (.str (32 :: T)) O := fun O => addS (by simp; omega)
  have a10 : ∀ O, addD false (.str X12) (.str T) O = .ok (.str (X12 ++ T)) O := fun O => addS (by omega)
  have rp1 : ∀ (r : Rho) O, r[3]? = some (some (.str T)) → replNE [32] [32, 48] 1 (varE 3) r O = .ok (.str R1) O := fun r O h => by
    simp only [replNE, ev_var', h, bind_ok']
    rw [if_pos (by simp; omega), hR1]
  have rp2 : ∀ (r : Rho) O, r[3]? = some (some (.str T)) → replNE [32] [32, 32] 1 (varE 3) r O = .ok (.str R2) O := fun r O h => by
    simp only [replNE, ev_var', h, bind_ok']
    rw [if_pos (by simp; omega), hR2]
  obtain ⟨ts1, hts1⟩ : ∃ ts : List Tx, ts = [T, A, A ++ [sg] ++ B, N ++ [sg] ++ M, [48] ++ T] := ⟨_, rfl⟩
  obtain ⟨ts2, hts2⟩ : ∃ ts : List Tx, ts = ts1 ++ [N ++ M, T ++ X90] := ⟨_, rfl⟩
  obtain ⟨ts3, hts3⟩ : ∃ ts : List Tx, ts = ts2 ++ [N ++ T, 32 :: T] := ⟨_, rfl⟩
  obtain ⟨ts4, hts4⟩ : ∃ ts : List Tx, ts = ts3 ++ [R1, R2, X12 ++ T, []] := ⟨_, rfl⟩
  have b1 : ts1.map D.str = [.str T, .str A, .str (A ++ [sg] ++ B), .str (N ++ [sg] ++ M), .str ([48] ++ T)] := by rw [hts1]; rfl
  have hl1 : ts1.length = 5 := by rw [hts1]; rfl
  have hl2 : ts2.length = 7 := by rw [hts2, List.length_append, hl1]; rfl
  have hl3 : ts3.length = 9 := by rw [hts3, List.length_append, hl2]; rfl
  have ball : ∀ t ∈ ts4, t.length ≤ 10000 := by
    rw [hts4, hts3, hts2, hts1]
    intro t ht
    simp only [List.mem_append, List.mem_cons, List.not_mem_nil, or_false] at ht
    rcases ht with (((rfl | rfl | rfl | rfl | rfl) | rfl | rfl) | rfl | rfl) | rfl | rfl | rfl | rfl <;> first | omega | (simp; done) | (simp; omega)
  have ad2 : ∀ O, addD false (.lst (ts1.map D.str)) (.lst [.str (N ++ M), .str (T ++ X90)]) O = .ok (.lst (ts2.map D.str)) O := fun O => by
    rw [op_addL, if_pos (by rw [hs]; simp [hl1]), hts2, List.map_append]; rfl
  have ad3 : ∀ O, addD false (.lst (ts2.map D.str)) (.lst [.str (N ++ T), .str (32 :: T)]) O = .ok (.lst (ts3.map D.str)) O := fun O => by
    rw [op_addL, if_pos (by rw [hs]; simp [hl2]), hts3, List.map_append]; rfl
  have ad4 : ∀ O, addD false (.lst (ts3.map D.str)) (.lst [.str R1, .str R2, .str (X12 ++ T), .str []]) O = .ok (.lst (ts4.map D.str)) O := fun O => by
    rw [op_addL, if_pos (by rw [hs]; simp [hl3]), hts4, List.map_append]; rfl
  have lp := forL_inv (t := nameG 8) (b := Q_law_1) (st := []) (fun i r O' => O' = O ∧ ∃ x8, r = E9 s (.int c) (.int mo) (some (.str T)) (some (.int at')) (some (.int ne')) (some (.str [sg])) (some (.lst (ts4.map D.str))) x8)
    (items := ts4.map D.str) (k := 0) (r := E9 s (.int c) (.int mo) (some (.str T)) (some (.int at')) (some (.int ne')) (some (.str [sg])) (some (.lst (ts4.map D.str))) x8) (O := O) (by
      rintro i d r O' hi ⟨rfl, x8, rfl⟩
      obtain ⟨t, ht, rfl⟩ := List.mem_map.mp (List.mem_of_getElem? hi)
      exact ⟨rfl, E9 s (.int c) (.int mo) (some (.str T)) (some (.int at')) (some (.int ne')) (some (.str [sg])) (some (.lst (ts4.map D.str))) (some (.str t)), _, _, _, rfl, .inl (one_ok t (ball t ht) _ _ _ _ _ _ _ _ _), rfl, _, rfl⟩)
    ⟨rfl, _, rfl⟩ (fun _ _ _ => rfl)
  obtain ⟨r', O', lp, rfl, y8, rfl⟩ := lp
  refine ⟨some (.str T), some (.int at'), some (.int ne'), some (.str [sg]), some (.lst (ts4.map D.str)), y8, ?_⟩
  unfold Q_law_2
  refine cs_nx e3 ?_
  refine cs_nx (r1 := E9 s (.int c) (.int mo) (some (.str T)) (some (.int at')) x5 x6 x7 x8) (O1 := O') (by rw [← hat]; simp [hs, zT, hpos]) ?_
  refine cs_nx (r1 := E9 s (.int c) (.int mo) (some (.str T)) (some (.int at')) (some (.int ne')) x6 x7 x8) (O1 := O') (by rw [← hne]; simp [hs, zT, hpos]) ?_
  refine cs_nx (r1 := E9 s (.int c) (.int mo) (some (.str T)) (some (.int at')) (some (.int ne')) (some (.str [sg])) x7 x8) (O1 := O') (by simp [esg]) ?_
  refine cs_nx (r1 := E9 s (.int c) (.int mo) (some (.str T)) (some (.int at')) (some (.int ne')) (some (.str [sg])) (some (.lst (ts1.map D.str))) x8) (O1 := O') (by rw [b1]; simp [-op_addS, hs, zT, hA, hB, hN, hM, a1, a2, a3, a4, a5]) ?_
  generalize hD1 : ts1.map D.str = D1 at *
  generalize hD2 : ts2.map D.str = D2 at *
  generalize hD3 : ts3.map D.str = D3 at *
  generalize hD4 : ts4.map D.str = D4 at *
  refine cs_nx (r1 := E9 s (.int c) (.int mo) (some (.str T)) (some (.int at')) (some (.int ne')) (some (.str [sg])) (some (.lst D2)) x8) (O1 := O') (by simp [-op_addS, -op_addL, hs, zT, hN, hM, a6, a7, l3, e90, ad2]) ?_
  refine cs_nx (r1 := E9 s (.int c) (.int mo) (some (.str T)) (some (.int at')) (some (.int ne')) (some (.str [sg])) (some (.lst D3)) x8) (O1 := O') (by simp [-op_addS, -op_addL, hs, zT, hN, a8, a9, ad3]) ?_
  refine cs_nx (r1 := E9 s (.int c) (.int mo) (some (.str T)) (some (.int at')) (some (.int ne')) (some (.str [sg])) (some (.lst D4)) x8) (O1 := O') (by simp [-op_addS, -op_addL, hs, rp1, rp2, e12, a10, ad4]) ?_
  rw [ev_forS, ev_seqI]
  simp only [ev_var', List.getElem?_cons_succ, List.getElem?_cons_zero, bind_ok', src_lst, bindS_ok']
  exact lp
theorem zip_mem : ∀ (as bs : List Int) (d : D), d ∈ zipD (as.map D.int) (bs.map D.int) → ∃ a b : Int, d = .tup [.int a, .int b]
  | [], bs, d, h => by simp [zipD] at h
  | a :: as, [], d, h => by simp [zipD] at h
  | a :: as, b :: bs, d, h => by
    simp only [List.map_cons, zipD, List.mem_cons] at h
    rcases h with rfl | h
    · exact ⟨a, b, rfl⟩
    · exact zip_mem as bs d h
theorem pick_map (ns : List Int) (lo hi : Option Int) (k : Int) : pickG (ns.map D.int) lo hi k = (pickG ns lo hi k).map D.int := by
  unfold pickG
  rw [List.length_map, List.map_filterMap]
  congr 1
  funext i
  simp
theorem main (ns : List Int) (h : ns.length ≤ 63) : ∃ O, fn_law [.scr (ns.map D.int)] [] = .ok (.bl true) O := by
  have hs : sizeLine = 16777216 := sizeLine_nat
  let A := pickG ns none (some 16) 2
  let B := pickG ns (some 1) (some 16) 2
  have hA : pickG (ns.map D.int) none (some 16) 2 = A.map D.int := pick_map ns none (some 16) 2
  have hB : pickG (ns.map D.int) (some 1) (some 16) 2 = B.map D.int := pick_map ns (some 1) (some 16) 2
  have lp := forL_inv (t := tupG 2 (consG (nameG 1) (consG (nameG 2) nilG))) (b := Q_law_2) (st := []) (fun i r O => O = [] ∧ ∃ x1 x2 x3 x4 x5 x6 x7 x8, r = [some (.scr (ns.map D.int)), x1, x2, x3, x4, x5, x6, x7, x8])
    (items := zipD (A.map D.int) (B.map D.int)) (k := 0) (r := [some (.scr (ns.map D.int)), none, none, none, none, none, none, none, none]) (O := []) (by
      rintro i d r O hi ⟨rfl, x1, x2, x3, x4, x5, x6, x7, x8, rfl⟩
      obtain ⟨a, b, rfl⟩ := zip_mem A B d (List.mem_of_getElem? hi)
      obtain ⟨y3, y4, y5, y6, y7, y8, e⟩ := round_ok (.scr (ns.map D.int)) a b x3 x4 x5 x6 x7 x8 []
      exact ⟨rfl, E9 (.scr (ns.map D.int)) (.int a) (.int b) x3 x4 x5 x6 x7 x8, [], _, _, by simp, .inl e, rfl, _, _, _, _, _, _, _, _, rfl⟩)
    ⟨rfl, _, _, _, _, _, _, _, _, rfl⟩ (fun _ _ _ => rfl)
  obtain ⟨r', O', lp, rfl, x1, x2, x3, x4, x5, x6, x7, x8, rfl⟩ := lp
  refine ⟨[], ?_⟩
  have hBd : B_law [some (.scr (ns.map D.int)), none, none, none, none, none, none, none, none] [] = .ret (.bl true) [] := by
    unfold B_law
    refine cs_nx (r1 := [some (.scr (ns.map D.int)), x1, x2, x3, x4, x5, x6, x7, x8]) (O1 := []) ?_ (by simp)
    have hl : ∀ O, listR (.scr (ns.map D.int)) O = some (ns.map D.int) := fun O => rfl
    rw [ev_forS, ev_callI]
    simp only [ev_consA, ev_slKE, ev_var', List.getElem?_cons_zero, bind_ok', ev_noP, ev_someP, ev_const, ev_asP, hl, hA, hB, ev_mkF, ev_nilA]
    exact lp
  simp [fn_law, runFn_eq, hBd]
end Lk04
set_option Elab.async false
set_option linter.all false
set_option maxRecDepth 100000
set_option maxHeartbeats 4000000
namespace Lk04
open PySem PySem.Spec PyProof.Rows L2 Dn
def top (i : Nat) : Stmt := PySem.Challenge.pw_loghall_k04_whole_texts_read_as_rows.main.body.getD i (.Pass ⟨0, 0, 0, 0⟩)
abbrev s__law_d : Stmt := top 20
abbrev s__law_or : Stmt := top 31
abbrev s__law_level : Stmt := top 26
abbrev s__law_number : Stmt := top 29
abbrev s__law_parsed : Stmt := top 30
abbrev s__law_mix : Stmt := top 24
abbrev s__law_name : Stmt := top 22
abbrev s__law_words : Stmt := top 23
abbrev s__law_record : Stmt := top 25
abbrev s__law_row : Stmt := top 27
abbrev s__law_same : Stmt := top 21
abbrev s_is_name : Stmt := top 13
abbrev s_read_figures : Stmt := top 17
abbrev s_level_word : Stmt := top 7
abbrev s_read_level : Stmt := top 8
abbrev s_read_row : Stmt := top 18
abbrev s__law_told : Stmt := top 28
abbrev s_law : Stmt := top 32
theorem sc__law_d : FnScope ["_law_cell", "_law_spot", "_law_many", "_law_number_here"] ["_law_cell", "_law_spot", "_law_many"] (defScope s__law_d) := ⟨rfl, rfl, rfl, by decide +kernel, rfl, by decide +kernel, by decide +kernel⟩
theorem sc__law_or : FnScope ["_law_due"] ["_law_due"] (defScope s__law_or) := ⟨rfl, rfl, rfl, by decide +kernel, rfl, by decide +kernel, by decide +kernel⟩
theorem sc__law_level : FnScope ["_law_level_here", "_law_words_here", "_law_k"] ["_law_level_here"] (defScope s__law_level) := ⟨rfl, rfl, rfl, by decide +kernel, rfl, by decide +kernel, by decide +kernel⟩
theorem sc__law_number : FnScope ["_law_text", "_law_sign", "_law_n"] ["_law_text"] (defScope s__law_number) := ⟨rfl, rfl, rfl, by decide +kernel, rfl, by decide +kernel, by decide +kernel⟩
theorem sc__law_parsed : FnScope ["_law_text", "_law_parts", "_law_number_here", "_law_moment", "_law_level_here", "_law_one", "_law_words_here", "_law_name_here", "_law_part", "_law_bad", "_law_sign"] ["_law_text"] (defScope s__law_parsed) := ⟨rfl, rfl, rfl, by decide +kernel, rfl, by decide +kernel, by decide +kernel⟩
theorem sc__law_mix : FnScope ["_law_cell", "_law_prime", "_law_many"] ["_law_cell", "_law_prime", "_law_many"] (defScope s__law_mix) := ⟨rfl, rfl, rfl, by decide +kernel, rfl, by decide +kernel, by decide +kernel⟩
theorem sc__law_name : FnScope ["_law_cell", "_law_parts", "_law_k", "_law_signs", "_law_text", "_law_j"] ["_law_cell"] (defScope s__law_name) := ⟨rfl, rfl, rfl, by decide +kernel, rfl, by decide +kernel, by decide +kernel⟩
theorem sc__law_words : FnScope ["_law_cell", "_law_most", "_law_signs", "_law_text", "_law_k"] ["_law_cell", "_law_most"] (defScope s__law_words) := ⟨rfl, rfl, rfl, by decide +kernel, rfl, by decide +kernel, by decide +kernel⟩
theorem sc__law_record : FnScope ["_law_cell", "_law_moment", "_law_level_here"] ["_law_cell"] (defScope s__law_record) := ⟨rfl, rfl, rfl, by decide +kernel, rfl, by decide +kernel, by decide +kernel⟩
theorem sc__law_row : FnScope ["_law_number_here", "_law_record_here"] ["_law_number_here", "_law_record_here"] (defScope s__law_row) := ⟨rfl, rfl, rfl, by decide +kernel, rfl, by decide +kernel, by decide +kernel⟩
theorem sc__law_same : FnScope ["_law_told_here", "_law_due", "_law_one", "_law_other"] ["_law_told_here", "_law_due"] (defScope s__law_same) := ⟨rfl, rfl, rfl, by decide +kernel, rfl, by decide +kernel, by decide +kernel⟩
theorem sc_is_name : FnScope ["thing", "parts", "fit", "sign", "part"] ["thing"] (defScope s_is_name) := ⟨rfl, rfl, rfl, by decide +kernel, rfl, by decide +kernel, by decide +kernel⟩
theorem sc_read_figures : FnScope ["text", "sign"] ["text"] (defScope s_read_figures) := ⟨rfl, rfl, rfl, by decide +kernel, rfl, by decide +kernel, by decide +kernel⟩
theorem sc_level_word : FnScope ["level", "at", "more"] ["level"] (defScope s_level_word) := ⟨rfl, rfl, rfl, by decide +kernel, rfl, by decide +kernel, by decide +kernel⟩
theorem sc_read_level : FnScope ["text", "level"] ["text"] (defScope s_read_level) := ⟨rfl, rfl, rfl, by decide +kernel, rfl, by decide +kernel, by decide +kernel⟩
theorem sc_read_row : FnScope ["text", "parts", "rest", "k", "part", "gap", "number", "moment", "level", "name"] ["text"] (defScope s_read_row) := ⟨rfl, rfl, rfl, by decide +kernel, rfl, by decide +kernel, by decide +kernel⟩
theorem sc__law_told : FnScope ["_law_text", "_law_found"] ["_law_text"] (defScope s__law_told) := ⟨rfl, rfl, rfl, by decide +kernel, rfl, by decide +kernel, by decide +kernel⟩
theorem sc_law : FnScope ["_law_script", "_law_cell", "_law_more", "_law_text", "_law_at", "_law_near", "_law_sign", "_law_things", "_law_thing"] ["_law_script"] (defScope s_law) := ⟨rfl, rfl, rfl, by decide +kernel, rfl, by decide +kernel, by decide +kernel⟩
def fnames : List Str := ["many", "level", "kept", "span", "passed", "now", "texts", "stops", "disk", "most", "keep", "last", "name", "least", "gate", "form", "levels", "closed", "writers", "still", "left", "deep", "at"]
def fname (i : Nat) : Str := fnames.getD i "?"
theorem fname_inj (i j : Nat) (hi : i < 23) (hj : j < 23) (h : fname i = fname j) : i = j := by
  have q : ∀ i, i < 23 → ∀ j, j < 23 → fname i = fname j → i = j := by decide +kernel
  exact q i hi j hj h
def mkC (K : PySem.W.Frag) (A0 X1 X2 : Addr) : Dn.Ctx := { K := K, fn := fname, fN := 23, finj := fname_inj, cl := fun c => match c with | _ => none, ec := fun c => match c with | 1 => some X1 | 2 => some X2 | _ => none, att := att }
structure Txt (K : PySem.W.Frag) (mg : Str → Option Value) (A0 X1 X2 : Addr) : Prop where
  g_BadLevel : mg "BadLevel" = some (.ref X1)
  x_BadLevel : ExcF K X1
  m_BadLevel : ∀ j A', (mkC K A0 X1 X2).ec j = some A' → PySem.W.exmOne (mkC K A0 X1 X2).K (.ref A') (.ref X1) = some (decide (j = 1))
  g_BadRow : mg "BadRow" = some (.ref X2)
  x_BadRow : ExcF K X2
  m_BadRow : ∀ j A', (mkC K A0 X1 X2).ec j = some A' → PySem.W.exmOne (mkC K A0 X1 X2).K (.ref A') (.ref X2) = some (decide (j = 2))
  n_all : mg "all" = none
  n_bool : mg "bool" = none
  n_int : mg "int" = none
  n_isinstance : mg "isinstance" = none
  n_len : mg "len" = none
  n_min : mg "min" = none
  n_range : mg "range" = none
  n_str : mg "str" = none
  n_tuple : mg "tuple" = none
  n_zip : mg "zip" = none
  k_DEEP_MOST : Cst K mg "DEEP_MOST" c_DEEP_MOST_names
  k_FIGURES_MOST : Cst K mg "FIGURES_MOST" c_FIGURES_MOST
  k_LEVEL_MOST : Cst K mg "LEVEL_MOST" c_LEVEL_MOST
  k_PART_MOST : Cst K mg "PART_MOST" c_PART_MOST
  k_SIGNS : Cst K mg "SIGNS" c_SIGNS_names
  k_WORDS : Cst K mg "WORDS" c_WORDS
  k_WORDS_MOST : Cst K mg "WORDS_MOST" c_WORDS_MOST
section
variable {P : Program} {w : World} {K : PySem.W.Frag} {mg : Str → Option Value} {base : Heap} {A0 X1 X2 : Addr}
theorem ok__law_d (T : Txt K mg A0 X1 X2) (Fa : Facts (mkC K A0 X1 X2)) (R : RawF K mg "_law_d" s__law_d ["_law_cell", "_law_spot", "_law_many"])  : GF P w K mg base (mkC K A0 X1 X2) "_law_d" 1 3 fn__law_d := by
  refine GF.mk' (k := 0) R sc__law_d fun f cdv A outer s H E hr => ?_
  have tk := takes_cx (P := P) (w := w) (K := K) (mg := mg) (base := base) (N := ["_law_cell", "_law_spot", "_law_many", "_law_number_here"]) (qual := "_law_d") (scope := defScope s__law_d) (f := f) (cd := cdv) (A := A) (outer := outer) (s := s) (H := H) (E := E)
  have hp := passes_cx (P := P) (w := w) (K := K) (mg := mg) (base := base) (CX := L2.CX P w) (N := ["_law_cell", "_law_spot", "_law_many", "_law_number_here"]) (qual := "_law_d") (scope := defScope s__law_d) (f := f) (cd := cdv) (A := A) (outer := outer) (s := s) (H := H) (E := E)
  exact (ss_cons (s_set 3 sc__law_d.nd (e_mod (e_add false rfl (d_var 0) (e_mul false rfl d_int (d_var 1))) d_int))
    (ss_cons (s_set 3 sc__law_d.nd (e_mod (e_mul false rfl (e_mod (e_mul false rfl (d_var 3) (d_var 3)) d_int) d_int) d_int))
    (ss_one (s_ret (e_mod (e_fdiv (d_var 3) d_int) (d_var 2))))))
theorem ok__law_or (T : Txt K mg A0 X1 X2) (Fa : Facts (mkC K A0 X1 X2)) (R : RawF K mg "_law_or" s__law_or ["_law_due"])  : GF P w K mg base (mkC K A0 X1 X2) "_law_or" 1 1 fn__law_or := by
  refine GF.mk' (k := 0) R sc__law_or fun f cdv A outer s H E hr => ?_
  have tk := takes_cx (P := P) (w := w) (K := K) (mg := mg) (base := base) (N := ["_law_due"]) (qual := "_law_or") (scope := defScope s__law_or) (f := f) (cd := cdv) (A := A) (outer := outer) (s := s) (H := H) (E := E)
  have hp := passes_cx (P := P) (w := w) (K := K) (mg := mg) (base := base) (CX := L2.CX P w) (N := ["_law_due"]) (qual := "_law_or") (scope := defScope s__law_or) (f := f) (cd := cdv) (A := A) (outer := outer) (s := s) (H := H) (E := E)
  exact (ss_cons (s_if (t_isN (d_var 0) d_non)
    (ss_one (s_ret (d_str [114, 101, 102, 117, 115, 101, 100])))
    ss_nil)
    (ss_one (s_ret (d_var 0))))
theorem ok__law_level (T : Txt K mg A0 X1 X2) (Fa : Facts (mkC K A0 X1 X2)) (R : RawF K mg "_law_level" s__law_level ["_law_level_here"])  : GF P w K mg base (mkC K A0 X1 X2) "_law_level" 1 1 fn__law_level := by
  refine GF.mk' (k := 0) R sc__law_level fun f cdv A outer s H E hr => ?_
  have tk := takes_cx (P := P) (w := w) (K := K) (mg := mg) (base := base) (N := ["_law_level_here", "_law_words_here", "_law_k"]) (qual := "_law_level") (scope := defScope s__law_level) (f := f) (cd := cdv) (A := A) (outer := outer) (s := s) (H := H) (E := E)
  have hp := passes_cx (P := P) (w := w) (K := K) (mg := mg) (base := base) (CX := L2.CX P w) (N := ["_law_level_here", "_law_words_here", "_law_k"]) (qual := "_law_level") (scope := defScope s__law_level) (f := f) (cd := cdv) (A := A) (outer := outer) (s := s) (H := H) (E := E)
  exact (ss_cons (s_set 1 sc__law_level.nd (d_lst false (a_cons (d_str [97, 108, 108]) (a_cons (d_str [100, 101, 98, 117, 103]) (a_cons (d_str [105, 110, 102, 111]) (a_cons (d_str [119, 97, 114, 110]) (a_cons (d_str [101, 114, 114, 111, 114]) (a_cons (d_str [102, 97, 116, 97, 108]) a_nil))))))))
    (ss_cons (s_for hp rfl (i_range3 rfl T.n_range (a_cons d_int (a_cons (e_neg d_int) (a_cons (e_neg d_int) a_nil)))) (g_name 2 sc__law_level.nd)
    (ss_cons (s_if (t_eq rfl hr.units (d_var 0) (e_mul false rfl d_int (d_var 2)))
    (ss_one (s_ret (d_ix rfl (hu1 hr.units) (d_var 1) (d_var 2))))
    ss_nil)
    (ss_one (s_if (t_gt (d_var 0) (e_mul false rfl d_int (d_var 2)))
    (ss_one (s_ret (e_add false rfl (e_add false rfl (d_ix rfl (hu1 hr.units) (d_var 1) (d_var 2)) (d_str [43])) (e_str T.n_str rfl (a_cons (e_sub (d_var 0) (e_mul false rfl d_int (d_var 2))) a_nil)))))
    ss_nil))))
    (ss_one (s_ret (d_str [])))))
theorem ok__law_number (T : Txt K mg A0 X1 X2) (Fa : Facts (mkC K A0 X1 X2)) (R : RawF K mg "_law_number" s__law_number ["_law_text"])  : GF P w K mg base (mkC K A0 X1 X2) "_law_number" 1 1 fn__law_number := by
  refine GF.mk' (k := 0) R sc__law_number fun f cdv A outer s H E hr => ?_
  have tk := takes_cx (P := P) (w := w) (K := K) (mg := mg) (base := base) (N := ["_law_text", "_law_sign", "_law_n"]) (qual := "_law_number") (scope := defScope s__law_number) (f := f) (cd := cdv) (A := A) (outer := outer) (s := s) (H := H) (E := E)
  have hp := passes_cx (P := P) (w := w) (K := K) (mg := mg) (base := base) (CX := L2.CX P w) (N := ["_law_text", "_law_sign", "_law_n"]) (qual := "_law_number") (scope := defScope s__law_number) (f := f) (cd := cdv) (A := A) (outer := outer) (s := s) (H := H) (E := E)
  exact (ss_cons (s_if (DW.t (w_or (t_not (t_lele d_int (e_len rfl T.n_len rfl (a_cons (d_var 0) a_nil)) d_int)) (w_or1 (t_tru rfl (d_lc false [("_law_sign", 1)] rfl sc__law_number.nd (i_seq rfl (d_var 0)) (blkX (N := ["_law_text", "_law_sign", "_law_n"]) (sc := defScope s__law_number) (by decide +kernel)) (by decide) (fun _ _ _ _ _ => (g_name 1 sc__law_number.nd)) (fun _ _ _ _ _ => (ts_one (t_notin rfl hr.units (d_var 1) (d_str [48, 49, 50, 51, 52, 53, 54, 55, 56, 57])))) (fun _ _ _ _ _ => (d_var 1)))))))
    (ss_one (s_ret d_non))
    ss_nil)
    (ss_cons (s_if (DW.t (w_and (t_tru rfl (e_startswith rfl (d_var 0) (a_cons (d_str [48]) a_nil))) (w_and1 (t_ne rfl hr.units (d_var 0) (d_str [48])))))
    (ss_one (s_ret d_non))
    ss_nil)
    (ss_cons (s_set 2 sc__law_number.nd d_int)
    (ss_cons (s_for hp rfl (i_seq rfl (d_var 0)) (g_name 1 sc__law_number.nd)
    (ss_one (s_set 2 sc__law_number.nd (e_add false rfl (e_mul false rfl d_int (d_var 2)) (e_find1 rfl (d_str [48, 49, 50, 51, 52, 53, 54, 55, 56, 57]) (a_cons (d_var 1) a_nil))))))
    (ss_one (s_ret (d_var 2)))))))
theorem ok__law_parsed (T : Txt K mg A0 X1 X2) (Fa : Facts (mkC K A0 X1 X2)) (R : RawF K mg "_law_parsed" s__law_parsed ["_law_text"]) (G__law_level : GF P w K mg base (mkC K A0 X1 X2) "_law_level" 1 1 fn__law_level) (G__law_number : GF P w K mg base (mkC K A0 X1 X2) "_law_number" 1 1 fn__law_number) : GF P w K mg base (mkC K A0 X1 X2) "_law_parsed" 2 1 fn__law_parsed := by
  refine GF.mk' (k := 1) R sc__law_parsed fun f cdv A outer s H E hr => ?_
  have tk := takes_cx (P := P) (w := w) (K := K) (mg := mg) (base := base) (N := ["_law_text", "_law_parts", "_law_number_here", "_law_moment", "_law_level_here", "_law_one", "_law_words_here", "_law_name_here", "_law_part", "_law_bad", "_law_sign"]) (qual := "_law_parsed") (scope := defScope s__law_parsed) (f := f) (cd := cdv) (A := A) (outer := outer) (s := s) (H := H) (E := E)
  have hp := passes_cx (P := P) (w := w) (K := K) (mg := mg) (base := base) (CX := L2.CX P w) (N := ["_law_text", "_law_parts", "_law_number_here", "_law_moment", "_law_level_here", "_law_one", "_law_words_here", "_law_name_here", "_law_part", "_law_bad", "_law_sign"]) (qual := "_law_parsed") (scope := defScope s__law_parsed) (f := f) (cd := cdv) (A := A) (outer := outer) (s := s) (H := H) (E := E)
  exact (ss_cons (s_set 1 sc__law_parsed.nd (e_split false rfl (d_var 0) (a_cons (d_str [32]) a_nil)))
    (ss_cons (s_if (t_lt (e_len rfl T.n_len rfl (a_cons (d_var 1) a_nil)) d_int)
    (ss_one (s_ret d_non))
    ss_nil)
    (ss_cons (s_set 2 sc__law_parsed.nd (d_call (G__law_number.close) (hr.mono (by omega)) tk rfl (a_cons (d_ix rfl (hu1 hr.units) (d_var 1) d_int) a_nil)))
    (ss_cons (s_set 3 sc__law_parsed.nd (d_call (G__law_number.close) (hr.mono (by omega)) tk rfl (a_cons (d_ix rfl (hu1 hr.units) (d_var 1) d_int) a_nil)))
    (ss_cons (s_setLc false [("_law_one", 5)] 4 rfl sc__law_parsed.nd (i_range1 rfl T.n_range (a_cons d_int a_nil)) (blkX (N := ["_law_text", "_law_parts", "_law_number_here", "_law_moment", "_law_level_here", "_law_one", "_law_words_here", "_law_name_here", "_law_part", "_law_bad", "_law_sign"]) (sc := defScope s__law_parsed) (by decide +kernel)) (by decide) (fun _ _ _ _ _ => (g_name 5 sc__law_parsed.nd)) (fun _ _ _ _ _ => (ts_one (t_eq rfl hr.units (d_call (G__law_level.close) (hr.mono (by omega)) takes0 rfl (a_cons (d_var 5) a_nil)) (d_ix rfl (hu1 hr.units) (d_var 1) d_int)))) (fun _ _ _ _ _ => (d_var 5)) (sw_true rfl rfl rfl (by decide +kernel)))
    (ss_cons (s_set 6 sc__law_parsed.nd (e_join rfl (d_str [32]) (a_cons (d_slice false rfl (d_var 1) (o_some d_int) o_none) a_nil)))
    (ss_cons (s_set 7 sc__law_parsed.nd (d_ix rfl (hu1 hr.units) (d_var 1) d_int))
    (ss_cons (s_for hp rfl (i_seq rfl (e_split false rfl (d_var 7) (a_cons (d_str [46]) a_nil))) (g_name 8 sc__law_parsed.nd)
    (ss_cons (s_setLc false [("_law_sign", 10)] 9 rfl sc__law_parsed.nd (i_seq rfl (d_var 8)) (blkX (N := ["_law_text", "_law_parts", "_law_number_here", "_law_moment", "_law_level_here", "_law_one", "_law_words_here", "_law_name_here", "_law_part", "_law_bad", "_law_sign"]) (sc := defScope s__law_parsed) (by decide +kernel)) (by decide) (fun _ _ _ _ _ => (g_name 10 sc__law_parsed.nd)) (fun _ _ _ _ _ => (ts_one (t_notin rfl hr.units (d_var 10) (d_str [97, 98, 99, 100, 101, 102, 103, 104, 105, 106, 107, 108, 109, 110, 111, 112, 113, 114, 115, 116, 117, 118, 119, 120, 121, 122, 48, 49, 50, 51, 52, 53, 54, 55, 56, 57, 95])))) (fun _ _ _ _ _ => (d_var 10)) (sw_true rfl rfl rfl (by decide +kernel)))
    (ss_one (s_if (DW.t (w_and (t_ne rfl hr.units (d_var 7) (d_str [42])) (w_and1 (DW.t (w_or (t_tru rfl (d_var 9)) (w_or1 (t_not (t_lele d_int (e_len rfl T.n_len rfl (a_cons (d_var 8) a_nil)) d_int))))))))
    (ss_one (s_ret d_non))
    ss_nil))))
    (ss_cons (s_if (DW.t (w_or (t_isN (d_var 2) d_non) (w_or (t_eq rfl hr.units (d_var 2) d_int) (w_or (t_isN (d_var 3) d_non) (w_or (t_not (t_tru rfl (d_var 4))) (w_or1 (t_gt (e_len rfl T.n_len rfl (a_cons (d_var 6) a_nil)) d_int)))))))
    (ss_one (s_ret d_non))
    ss_nil)
    (ss_cons (s_if (t_gt (e_len rfl T.n_len rfl (a_cons (e_split false rfl (d_var 7) (a_cons (d_str [46]) a_nil)) a_nil)) d_int)
    (ss_one (s_ret d_non))
    ss_nil)
    (ss_cons (s_if (t_eq rfl hr.units (d_var 7) (d_str [42]))
    (ss_one (s_set 7 sc__law_parsed.nd (d_str [])))
    ss_nil)
    (ss_one (s_ret (d_tup (a_cons (d_var 2) (a_cons (d_tup (a_cons (d_var 3) (a_cons (d_ix rfl (hu1 hr.units) (d_var 4) d_int) (a_cons (d_var 7) (a_cons (d_var 6) a_nil))))) a_nil))))))))))))))))
theorem ok__law_mix (T : Txt K mg A0 X1 X2) (Fa : Facts (mkC K A0 X1 X2)) (R : RawF K mg "_law_mix" s__law_mix ["_law_cell", "_law_prime", "_law_many"])  : GF P w K mg base (mkC K A0 X1 X2) "_law_mix" 1 3 fn__law_mix := by
  refine GF.mk' (k := 0) R sc__law_mix fun f cdv A outer s H E hr => ?_
  have tk := takes_cx (P := P) (w := w) (K := K) (mg := mg) (base := base) (N := ["_law_cell", "_law_prime", "_law_many"]) (qual := "_law_mix") (scope := defScope s__law_mix) (f := f) (cd := cdv) (A := A) (outer := outer) (s := s) (H := H) (E := E)
  have hp := passes_cx (P := P) (w := w) (K := K) (mg := mg) (base := base) (CX := L2.CX P w) (N := ["_law_cell", "_law_prime", "_law_many"]) (qual := "_law_mix") (scope := defScope s__law_mix) (f := f) (cd := cdv) (A := A) (outer := outer) (s := s) (H := H) (E := E)
  exact (ss_one (s_ret (e_mod (e_mod (e_mul false rfl (d_var 0) d_int) (d_var 1)) (d_var 2))))
theorem ok__law_name (T : Txt K mg A0 X1 X2) (Fa : Facts (mkC K A0 X1 X2)) (R : RawF K mg "_law_name" s__law_name ["_law_cell"]) (G__law_d : GF P w K mg base (mkC K A0 X1 X2) "_law_d" 1 3 fn__law_d) : GF P w K mg base (mkC K A0 X1 X2) "_law_name" 2 1 fn__law_name := by
  refine GF.mk' (k := 1) R sc__law_name fun f cdv A outer s H E hr => ?_
  have tk := takes_cx (P := P) (w := w) (K := K) (mg := mg) (base := base) (N := ["_law_cell", "_law_parts", "_law_k", "_law_signs", "_law_text", "_law_j"]) (qual := "_law_name") (scope := defScope s__law_name) (f := f) (cd := cdv) (A := A) (outer := outer) (s := s) (H := H) (E := E)
  have hp := passes_cx (P := P) (w := w) (K := K) (mg := mg) (base := base) (CX := L2.CX P w) (N := ["_law_cell", "_law_parts", "_law_k", "_law_signs", "_law_text", "_law_j"]) (qual := "_law_name") (scope := defScope s__law_name) (f := f) (cd := cdv) (A := A) (outer := outer) (s := s) (H := H) (E := E)
  exact (ss_cons (s_if (t_gt (d_call (G__law_d.close) (hr.mono (by omega)) tk rfl (a_cons (d_var 0) (a_cons d_int (a_cons d_int a_nil)))) d_int)
    (ss_one (s_ret (d_ix rfl (hu1 hr.units) (d_lst false (a_cons (d_str []) (a_cons (d_str [97]) (a_cons (d_str [97, 46, 98]) (a_cons (d_str [97, 46, 98, 46, 99]) (a_cons (d_str [98]) (a_cons (d_str [97, 98]) (a_cons (d_str [97, 46, 98, 50]) (a_cons (d_str [98, 46, 97]) a_nil))))))))) (d_call (G__law_d.close) (hr.mono (by omega)) tk rfl (a_cons (d_var 0) (a_cons d_int (a_cons d_int a_nil)))))))
    ss_nil)
    (ss_cons (s_set 1 sc__law_name.nd (d_lst true a_nil))
    (ss_cons (s_for hp rfl (i_range1 rfl T.n_range (a_cons (e_add false rfl (d_call (G__law_d.close) (hr.mono (by omega)) tk rfl (a_cons (d_var 0) (a_cons d_int (a_cons d_int a_nil)))) d_int) a_nil)) (g_name 2 sc__law_name.nd)
    (ss_cons (s_set 3 sc__law_name.nd (d_str [97, 98, 99, 100, 101, 102, 103, 104, 105, 106, 107, 108, 109, 110, 111, 112, 113, 114, 115, 116, 117, 118, 119, 120, 121, 122, 48, 49, 50, 51, 52, 53, 54, 55, 56, 57, 95]))
    (ss_cons (s_set 4 sc__law_name.nd (d_str []))
    (ss_cons (s_for hp rfl (i_range1 rfl T.n_range (a_cons (e_add false rfl (e_mod (e_add false rfl (e_fdiv (d_var 0) d_int) (e_mul false rfl d_int (d_var 2))) d_int) d_int) a_nil)) (g_name 5 sc__law_name.nd)
    (ss_one (s_set 4 sc__law_name.nd (e_add false rfl (d_var 4) (d_ix rfl (hu1 hr.units) (d_var 3) (e_mod (e_add false rfl (e_add false rfl (e_fdiv (d_var 0) d_int) (e_mul false rfl d_int (d_var 2))) (e_mul false rfl d_int (d_var 5))) d_int))))))
    (ss_one (s_expr (e_append rfl (d_var 1) (a_cons (d_var 4) a_nil))))))))
    (ss_one (s_ret (e_join rfl (d_str [46]) (a_cons (d_var 1) a_nil)))))))
theorem ok__law_words (T : Txt K mg A0 X1 X2) (Fa : Facts (mkC K A0 X1 X2)) (R : RawF K mg "_law_words" s__law_words ["_law_cell", "_law_most"]) (G__law_d : GF P w K mg base (mkC K A0 X1 X2) "_law_d" 1 3 fn__law_d) : GF P w K mg base (mkC K A0 X1 X2) "_law_words" 2 2 fn__law_words := by
  refine GF.mk' (k := 1) R sc__law_words fun f cdv A outer s H E hr => ?_
  have tk := takes_cx (P := P) (w := w) (K := K) (mg := mg) (base := base) (N := ["_law_cell", "_law_most", "_law_signs", "_law_text", "_law_k"]) (qual := "_law_words") (scope := defScope s__law_words) (f := f) (cd := cdv) (A := A) (outer := outer) (s := s) (H := H) (E := E)
  have hp := passes_cx (P := P) (w := w) (K := K) (mg := mg) (base := base) (CX := L2.CX P w) (N := ["_law_cell", "_law_most", "_law_signs", "_law_text", "_law_k"]) (qual := "_law_words") (scope := defScope s__law_words) (f := f) (cd := cdv) (A := A) (outer := outer) (s := s) (H := H) (E := E)
  exact (ss_cons (s_set 2 sc__law_words.nd (d_str [32, 33, 34, 35, 36, 38, 39, 40, 41, 42, 43, 44, 45, 46, 47, 48, 49, 50, 51, 52, 53, 54, 55, 56, 57, 58, 59, 60, 61, 62, 63, 64, 65, 66, 67, 68, 69, 70, 71, 72, 73, 74, 75, 76, 77, 78, 79, 80, 81, 82, 83, 84, 85, 86, 87, 88, 89, 90, 91, 92, 93, 94, 95, 96, 97, 98, 99, 100, 101, 102, 103, 104, 105, 106, 107, 108, 109, 110, 111, 112, 113, 114, 115, 116, 117, 118, 119, 120, 121, 122, 123, 124, 125, 126]))
    (ss_cons (s_if (t_eq rfl hr.units (d_call (G__law_d.close) (hr.mono (by omega)) tk rfl (a_cons (d_var 0) (a_cons d_int (a_cons d_int a_nil)))) d_int)
    (ss_one (s_ret (d_ix rfl (hu1 hr.units) (d_lst false (a_cons (d_str []) (a_cons (d_str [97]) (a_cons (d_str [100, 105, 115, 107]) (a_cons (d_str [32, 97, 32, 32, 98, 32]) (a_cons (d_str [105, 116, 39, 115]) (a_cons (d_str [100, 105, 115, 107, 32, 102, 117, 108, 108]) a_nil))))))) (d_call (G__law_d.close) (hr.mono (by omega)) tk rfl (a_cons (d_var 0) (a_cons d_int (a_cons d_int a_nil)))))))
    ss_nil)
    (ss_cons (s_set 3 sc__law_words.nd (d_str []))
    (ss_cons (s_for hp rfl (i_range1 rfl T.n_range (a_cons (d_call (G__law_d.close) (hr.mono (by omega)) tk rfl (a_cons (d_var 0) (a_cons d_int (a_cons (e_add false rfl (d_var 1) d_int) a_nil)))) a_nil)) (g_name 4 sc__law_words.nd)
    (ss_one (s_set 3 sc__law_words.nd (e_add false rfl (d_var 3) (d_ix rfl (hu1 hr.units) (d_var 2) (e_mod (e_add false rfl (e_fdiv (d_var 0) d_int) (e_mul false rfl (d_var 4) (e_add false rfl (d_call (G__law_d.close) (hr.mono (by omega)) tk rfl (a_cons (d_var 0) (a_cons d_int (a_cons d_int a_nil)))) d_int))) d_int))))))
    (ss_one (s_ret (d_var 3)))))))
theorem ok__law_record (T : Txt K mg A0 X1 X2) (Fa : Facts (mkC K A0 X1 X2)) (R : RawF K mg "_law_record" s__law_record ["_law_cell"]) (G__law_d : GF P w K mg base (mkC K A0 X1 X2) "_law_d" 1 3 fn__law_d) (G__law_mix : GF P w K mg base (mkC K A0 X1 X2) "_law_mix" 1 3 fn__law_mix) (G__law_name : GF P w K mg base (mkC K A0 X1 X2) "_law_name" 2 1 fn__law_name) (G__law_words : GF P w K mg base (mkC K A0 X1 X2) "_law_words" 2 2 fn__law_words) : GF P w K mg base (mkC K A0 X1 X2) "_law_record" 3 1 fn__law_record := by
  refine GF.mk' (k := 2) R sc__law_record fun f cdv A outer s H E hr => ?_
  have tk := takes_cx (P := P) (w := w) (K := K) (mg := mg) (base := base) (N := ["_law_cell", "_law_moment", "_law_level_here"]) (qual := "_law_record") (scope := defScope s__law_record) (f := f) (cd := cdv) (A := A) (outer := outer) (s := s) (H := H) (E := E)
  have hp := passes_cx (P := P) (w := w) (K := K) (mg := mg) (base := base) (CX := L2.CX P w) (N := ["_law_cell", "_law_moment", "_law_level_here"]) (qual := "_law_record") (scope := defScope s__law_record) (f := f) (cd := cdv) (A := A) (outer := outer) (s := s) (H := H) (E := E)
  exact (ss_cons (s_set 1 sc__law_record.nd (e_mod (e_fdiv (d_var 0) d_int) d_int))
    (ss_cons (s_if (t_eq rfl hr.units (d_call (G__law_d.close) (hr.mono (by omega)) tk rfl (a_cons (d_var 0) (a_cons d_int (a_cons d_int a_nil)))) d_int)
    (ss_one (s_set 1 sc__law_record.nd (d_ix rfl (hu1 hr.units) (d_lst false (a_cons d_int (a_cons d_int (a_cons d_int (a_cons d_int (a_cons d_int (a_cons d_int a_nil))))))) (d_call (G__law_d.close) (hr.mono (by omega)) tk rfl (a_cons (d_var 0) (a_cons d_int (a_cons d_int a_nil)))))))
    ss_nil)
    (ss_cons (s_set 2 sc__law_record.nd (d_call (G__law_mix.close) (hr.mono (by omega)) tk rfl (a_cons (d_var 0) (a_cons d_int (a_cons d_int a_nil)))))
    (ss_cons (s_if (t_eq rfl hr.units (d_call (G__law_d.close) (hr.mono (by omega)) tk rfl (a_cons (d_var 0) (a_cons d_int (a_cons d_int a_nil)))) d_int)
    (ss_one (s_set 2 sc__law_record.nd (e_mul false rfl d_int (e_mod (d_var 2) d_int))))
    ss_nil)
    (ss_one (s_ret (d_tup (a_cons (d_var 1) (a_cons (d_var 2) (a_cons (d_call (G__law_name.close) (hr.mono (by omega)) tk rfl (a_cons (e_fdiv (d_var 0) d_int) a_nil)) (a_cons (d_call (G__law_words.close) (hr.mono (by omega)) tk rfl (a_cons (e_fdiv (d_var 0) d_int) (a_cons d_int a_nil))) a_nil)))))))))))
theorem ok__law_row (T : Txt K mg A0 X1 X2) (Fa : Facts (mkC K A0 X1 X2)) (R : RawF K mg "_law_row" s__law_row ["_law_number_here", "_law_record_here"]) (G__law_level : GF P w K mg base (mkC K A0 X1 X2) "_law_level" 1 1 fn__law_level) : GF P w K mg base (mkC K A0 X1 X2) "_law_row" 2 2 fn__law_row := by
  refine GF.mk' (k := 1) R sc__law_row fun f cdv A outer s H E hr => ?_
  have tk := takes_cx (P := P) (w := w) (K := K) (mg := mg) (base := base) (N := ["_law_number_here", "_law_record_here"]) (qual := "_law_row") (scope := defScope s__law_row) (f := f) (cd := cdv) (A := A) (outer := outer) (s := s) (H := H) (E := E)
  have hp := passes_cx (P := P) (w := w) (K := K) (mg := mg) (base := base) (CX := L2.CX P w) (N := ["_law_number_here", "_law_record_here"]) (qual := "_law_row") (scope := defScope s__law_row) (f := f) (cd := cdv) (A := A) (outer := outer) (s := s) (H := H) (E := E)
  exact (ss_one (s_ret (e_join rfl (d_str [32]) (a_cons (d_lst false (a_cons (e_str T.n_str rfl (a_cons (d_var 0) a_nil)) (a_cons (e_str T.n_str rfl (a_cons (d_ix rfl (hu1 hr.units) (d_var 1) d_int) a_nil)) (a_cons (d_call (G__law_level.close) (hr.mono (by omega)) tk rfl (a_cons (d_ix rfl (hu1 hr.units) (d_var 1) d_int) a_nil)) (a_cons (d_or rfl (d_ix rfl (hu1 hr.units) (d_var 1) d_int) (d_one (d_str [42]))) (a_cons (d_ix rfl (hu1 hr.units) (d_var 1) d_int) a_nil)))))) a_nil))))
theorem ok__law_same (T : Txt K mg A0 X1 X2) (Fa : Facts (mkC K A0 X1 X2)) (R : RawF K mg "_law_same" s__law_same ["_law_told_here", "_law_due"]) (n : Nat)  (R__law_same : GF P w K mg base (mkC K A0 X1 X2) "_law_same" (0 + n) 2 (fn__law_same n)) : GF P w K mg base (mkC K A0 X1 X2) "_law_same" (0 + n + 1) 2 (fn__law_same (n + 1)) := by
  show GF P w K mg base (mkC K A0 X1 X2) "_law_same" (0 + n + 1) 2 (runFn ["_law_told_here", "_law_due", "_law_one", "_law_other"].length (B__law_same (fn__law_same n)))
  refine GF.mk' (k := 0 + n) R sc__law_same fun f cdv A outer s H E hr => ?_
  have tk := takes_cx (P := P) (w := w) (K := K) (mg := mg) (base := base) (N := ["_law_told_here", "_law_due", "_law_one", "_law_other"]) (qual := "_law_same") (scope := defScope s__law_same) (f := f) (cd := cdv) (A := A) (outer := outer) (s := s) (H := H) (E := E)
  have hp := passes_cx (P := P) (w := w) (K := K) (mg := mg) (base := base) (CX := L2.CX P w) (N := ["_law_told_here", "_law_due", "_law_one", "_law_other"]) (qual := "_law_same") (scope := defScope s__law_same) (f := f) (cd := cdv) (A := A) (outer := outer) (s := s) (H := H) (E := E)
  exact (ss_cons (s_if (t_isN (d_var 1) d_non)
    (ss_one (s_ret (e_isN (d_var 0) d_non)))
    ss_nil)
    (ss_cons (s_if (t_tru rfl (d_isi 1 rfl (by decide) rfl T.n_isinstance (d_var 1) rfl T.n_bool (by decide +kernel)))
    (ss_one (s_ret (d_and rfl (d_isi 1 rfl (by decide) rfl T.n_isinstance (d_var 0) rfl T.n_bool (by decide +kernel)) (d_one (e_eq rfl hr.units (d_var 0) (d_var 1))))))
    ss_nil)
    (ss_cons (s_if (t_tru rfl (d_isi 4 rfl (by decide) rfl T.n_isinstance (d_var 1) rfl T.n_tuple (by decide +kernel)))
    (ss_cons (s_if (DW.t (w_or (t_not (t_tru rfl (d_isi 4 rfl (by decide) rfl T.n_isinstance (d_var 0) rfl T.n_tuple (by decide +kernel)))) (w_or1 (t_ne rfl hr.units (e_len rfl T.n_len rfl (a_cons (d_var 0) a_nil)) (e_len rfl T.n_len rfl (a_cons (d_var 1) a_nil))))))
    (ss_one (s_ret d_bl))
    ss_nil)
    (ss_one (s_ret (e_all rfl rfl T.n_all rfl (a_cons (d_lc false [("_law_one", 2), ("_law_other", 3)] rfl sc__law_same.nd (i_zip rfl rfl T.n_zip (a_cons (d_var 0) (a_cons (d_var 1) a_nil))) (blkX (N := ["_law_told_here", "_law_due", "_law_one", "_law_other"]) (sc := defScope s__law_same) (by decide +kernel)) (by decide) (fun _ _ _ _ _ => (g_tup rfl rfl (gs_cons (g_name 2 sc__law_same.nd) (gs_cons (g_name 3 sc__law_same.nd) gs_nil)))) (fun _ _ _ _ _ => ts_nil) (fun _ _ _ _ _ => (d_call (R__law_same.close) hr takes0 rfl (a_cons (d_var 2) (a_cons (d_var 3) a_nil))))) a_nil)))))
    ss_nil)
    (ss_cons (s_if (t_tru rfl (d_isi 3 rfl (by decide) rfl T.n_isinstance (d_var 1) rfl T.n_str (by decide +kernel)))
    (ss_one (s_ret (d_and rfl (d_isi 3 rfl (by decide) rfl T.n_isinstance (d_var 0) rfl T.n_str (by decide +kernel)) (d_one (e_eq rfl hr.units (d_var 0) (d_var 1))))))
    ss_nil)
    (ss_one (s_ret (d_and rfl (d_isi 2 rfl (by decide) rfl T.n_isinstance (d_var 0) rfl T.n_int (by decide +kernel)) (d_and rfl (d_not rfl (d_isi 1 rfl (by decide) rfl T.n_isinstance (d_var 0) rfl T.n_bool (by decide +kernel))) (d_one (e_eq rfl hr.units (d_var 0) (d_var 1)))))))))))
theorem grp_ok__law_same (T : Txt K mg A0 X1 X2) (Fa : Facts (mkC K A0 X1 X2)) (R__law_same : RawF K mg "_law_same" s__law_same ["_law_told_here", "_law_due"])  : ∀ n : Nat, GF P w K mg base (mkC K A0 X1 X2) "_law_same" (0 + n) 2 (fn__law_same n)
  | 0 => GF.bad R__law_same
  | n + 1 => by
    have I__law_same := grp_ok__law_same T Fa R__law_same  n
    exact ok__law_same T Fa R__law_same n  I__law_same
theorem ok_is_name (T : Txt K mg A0 X1 X2) (Fa : Facts (mkC K A0 X1 X2)) (R : RawF K mg "is_name" s_is_name ["thing"])  : GF P w K mg base (mkC K A0 X1 X2) "is_name" 1 1 fn_is_name := by
  refine GF.mk' (k := 0) R sc_is_name fun f cdv A outer s H E hr => ?_
  have tk := takes_cx (P := P) (w := w) (K := K) (mg := mg) (base := base) (N := ["thing", "parts", "fit", "sign", "part"]) (qual := "is_name") (scope := defScope s_is_name) (f := f) (cd := cdv) (A := A) (outer := outer) (s := s) (H := H) (E := E)
  have hp := passes_cx (P := P) (w := w) (K := K) (mg := mg) (base := base) (CX := L2.CX P w) (N := ["thing", "parts", "fit", "sign", "part"]) (qual := "is_name") (scope := defScope s_is_name) (f := f) (cd := cdv) (A := A) (outer := outer) (s := s) (H := H) (E := E)
  exact (ss_cons (s_if (t_not (t_tru rfl (d_isi 3 rfl (by decide) rfl T.n_isinstance (d_var 0) rfl T.n_str (by decide +kernel))))
    (ss_one (s_ret d_bl))
    ss_nil)
    (ss_cons (s_if (t_eq rfl hr.units (d_var 0) (d_str []))
    (ss_one (s_ret d_bl))
    ss_nil)
    (ss_cons (s_set 1 sc_is_name.nd (e_split false rfl (d_var 0) (a_cons (d_str [46]) a_nil)))
    (ss_cons (s_setLc false [("part", 4)] 2 rfl sc_is_name.nd (i_seq rfl (d_var 1)) (blkX (N := ["thing", "parts", "fit", "sign", "part"]) (sc := defScope s_is_name) (by decide +kernel)) (by decide) (fun _ _ _ _ _ => (g_name 4 sc_is_name.nd)) (fun _ _ _ _ _ => ts_nil) (fun _ _ _ _ _ => (d_and rfl (e_lele d_int (e_len rfl T.n_len rfl (a_cons (d_var 4) a_nil)) (d_cst rfl T.k_PART_MOST rfl)) (d_one (e_all rfl rfl T.n_all rfl (a_cons (d_lc false [("sign", 3)] rfl sc_is_name.nd (i_seq rfl (d_var 4)) (by kernel_rfl) (by decide) (fun _ _ _ _ _ => (g_name 3 sc_is_name.nd)) (fun _ _ _ _ _ => ts_nil) (fun _ _ _ _ _ => (e_in rfl hr.units (d_var 3) (d_cst rfl T.k_SIGNS rfl)))) a_nil))))) (sw_true rfl rfl rfl (by decide +kernel)))
    (ss_one (s_ret (d_and rfl (e_le (e_len rfl T.n_len rfl (a_cons (d_var 1) a_nil)) (d_cst rfl T.k_DEEP_MOST rfl)) (d_one (e_all rfl rfl T.n_all rfl (a_cons (d_var 2) a_nil))))))))))
theorem ok_read_figures (T : Txt K mg A0 X1 X2) (Fa : Facts (mkC K A0 X1 X2)) (R : RawF K mg "read_figures" s_read_figures ["text"])  : GF P w K mg base (mkC K A0 X1 X2) "read_figures" 1 1 fn_read_figures := by
  refine GF.mk' (k := 0) R sc_read_figures fun f cdv A outer s H E hr => ?_
  have tk := takes_cx (P := P) (w := w) (K := K) (mg := mg) (base := base) (N := ["text", "sign"]) (qual := "read_figures") (scope := defScope s_read_figures) (f := f) (cd := cdv) (A := A) (outer := outer) (s := s) (H := H) (E := E)
  have hp := passes_cx (P := P) (w := w) (K := K) (mg := mg) (base := base) (CX := L2.CX P w) (N := ["text", "sign"]) (qual := "read_figures") (scope := defScope s_read_figures) (f := f) (cd := cdv) (A := A) (outer := outer) (s := s) (H := H) (E := E)
  exact (ss_cons (s_if (DW.t (w_or (t_not (t_lele d_int (e_len rfl T.n_len rfl (a_cons (d_var 0) a_nil)) (d_cst rfl T.k_FIGURES_MOST rfl))) (w_or1 (t_not (t_tru rfl (e_all rfl rfl T.n_all rfl (a_cons (d_lc false [("sign", 1)] rfl sc_read_figures.nd (i_seq rfl (d_var 0)) (blkX (N := ["text", "sign"]) (sc := defScope s_read_figures) (by decide +kernel)) (by decide) (fun _ _ _ _ _ => (g_name 1 sc_read_figures.nd)) (fun _ _ _ _ _ => ts_nil) (fun _ _ _ _ _ => (e_in rfl hr.units (d_var 1) (d_str [48, 49, 50, 51, 52, 53, 54, 55, 56, 57])))) a_nil)))))))
    (ss_one (s_raise0 2 rfl tk rfl rfl T.x_BadRow T.g_BadRow))
    ss_nil)
    (ss_cons (s_if (DW.t (w_and (t_eq rfl hr.units (d_ix rfl (hu1 hr.units) (d_var 0) d_int) (d_str [48])) (w_and1 (t_gt (e_len rfl T.n_len rfl (a_cons (d_var 0) a_nil)) d_int))))
    (ss_one (s_raise0 2 rfl tk rfl rfl T.x_BadRow T.g_BadRow))
    ss_nil)
    (ss_one (s_ret (e_int T.n_int rfl (a_cons (d_var 0) a_nil))))))
theorem ok_level_word (T : Txt K mg A0 X1 X2) (Fa : Facts (mkC K A0 X1 X2)) (R : RawF K mg "level_word" s_level_word ["level"])  : GF P w K mg base (mkC K A0 X1 X2) "level_word" 1 1 fn_level_word := by
  refine GF.mk' (k := 0) R sc_level_word fun f cdv A outer s H E hr => ?_
  have tk := takes_cx (P := P) (w := w) (K := K) (mg := mg) (base := base) (N := ["level", "at", "more"]) (qual := "level_word") (scope := defScope s_level_word) (f := f) (cd := cdv) (A := A) (outer := outer) (s := s) (H := H) (E := E)
  have hp := passes_cx (P := P) (w := w) (K := K) (mg := mg) (base := base) (CX := L2.CX P w) (N := ["level", "at", "more"]) (qual := "level_word") (scope := defScope s_level_word) (f := f) (cd := cdv) (A := A) (outer := outer) (s := s) (H := H) (E := E)
  exact (ss_cons (s_set 1 sc_level_word.nd (e_min2 rfl rfl T.n_min rfl (a_cons (e_fdiv (d_var 0) d_int) (a_cons (e_sub (e_len rfl T.n_len rfl (a_cons (d_cst rfl T.k_WORDS rfl) a_nil)) d_int) a_nil))))
    (ss_cons (s_set 2 sc_level_word.nd (e_sub (d_var 0) (e_mul false rfl d_int (d_var 1))))
    (ss_cons (s_if (t_eq rfl hr.units (d_var 2) d_int)
    (ss_one (s_ret (d_ix rfl (hu1 hr.units) (d_cst rfl T.k_WORDS rfl) (d_var 1))))
    ss_nil)
    (ss_one (s_ret (d_join (j_cons (j_val (d_ix rfl (hu1 hr.units) (d_cst rfl T.k_WORDS rfl) (d_var 1))) (j_cons (d_str [43]) (j_cons (j_val (d_var 2)) j_nil)))))))))
theorem ok_level_word_n (T : Txt K mg A0 X1 X2) (Fa : Facts (mkC K A0 X1 X2)) (R : RawF K mg "level_word" s_level_word ["level"])  : GN P w K mg base (mkC K A0 X1 X2) "level_word" 2 1 fn_level_word := by
  refine GN.mk' (k := 1) R sc_level_word fun f cdv A outer s H E hr => ?_
  have tk := takesN_cx (P := P) (w := w) (K := K) (mg := mg) (base := base) (N := ["level", "at", "more"]) (qual := "level_word") (scope := defScope s_level_word) (f := f) (cd := cdv) (A := A) (outer := outer) (s := s) (H := H) (E := E)
  have hp := passes_cx (P := P) (w := w) (K := K) (mg := mg) (base := base) (CX := L2N.CX P w) (N := ["level", "at", "more"]) (qual := "level_word") (scope := defScope s_level_word) (f := f) (cd := cdv) (A := A) (outer := outer) (s := s) (H := H) (E := E)
  exact (ss_cons (s_set 1 sc_level_word.nd (e_min2 rfl rfl T.n_min rfl (a_cons (e_fdiv (d_var 0) d_int) (a_cons (e_sub (e_len rfl T.n_len rfl (a_cons (d_cst rfl T.k_WORDS rfl) a_nil)) d_int) a_nil))))
    (ss_cons (s_set 2 sc_level_word.nd (e_sub (d_var 0) (e_mul false rfl d_int (d_var 1))))
    (ss_cons (s_if (t_eq rfl hr.units (d_var 2) d_int)
    (ss_one (s_ret (d_ix rfl (hu1 hr.units) (d_cst rfl T.k_WORDS rfl) (d_var 1))))
    ss_nil)
    (ss_one (s_ret (d_join (j_cons (j_val (d_ix rfl (hu1 hr.units) (d_cst rfl T.k_WORDS rfl) (d_var 1))) (j_cons (d_str [43]) (j_cons (j_val (d_var 2)) j_nil)))))))))
theorem ok_read_level (T : Txt K mg A0 X1 X2) (Fa : Facts (mkC K A0 X1 X2)) (R : RawF K mg "read_level" s_read_level ["text"]) (G_level_word : GF P w K mg base (mkC K A0 X1 X2) "level_word" 1 1 fn_level_word) : GF P w K mg base (mkC K A0 X1 X2) "read_level" 2 1 fn_read_level := by
  refine GF.mk' (k := 1) R sc_read_level fun f cdv A outer s H E hr => ?_
  have tk := takes_cx (P := P) (w := w) (K := K) (mg := mg) (base := base) (N := ["text", "level"]) (qual := "read_level") (scope := defScope s_read_level) (f := f) (cd := cdv) (A := A) (outer := outer) (s := s) (H := H) (E := E)
  have hp := passes_cx (P := P) (w := w) (K := K) (mg := mg) (base := base) (CX := L2.CX P w) (N := ["text", "level"]) (qual := "read_level") (scope := defScope s_read_level) (f := f) (cd := cdv) (A := A) (outer := outer) (s := s) (H := H) (E := E)
  exact (ss_cons (s_for hp rfl (i_range1 rfl T.n_range (a_cons (e_add false rfl (d_cst rfl T.k_LEVEL_MOST rfl) d_int) a_nil)) (g_name 1 sc_read_level.nd)
    (ss_one (s_if (t_eq rfl hr.units (d_call (G_level_word.close) (hr.mono (by omega)) tk rfl (a_cons (d_var 1) a_nil)) (d_var 0))
    (ss_one (s_ret (d_var 1)))
    ss_nil)))
    (ss_one (s_raise0 1 rfl tk rfl rfl T.x_BadLevel T.g_BadLevel)))
theorem ok_read_level_n (T : Txt K mg A0 X1 X2) (Fa : Facts (mkC K A0 X1 X2)) (R : RawF K mg "read_level" s_read_level ["text"]) (G_level_word_n : GN P w K mg base (mkC K A0 X1 X2) "level_word" 2 1 fn_level_word) : GN P w K mg base (mkC K A0 X1 X2) "read_level" 3 1 fn_read_level := by
  refine GN.mk' (k := 2) R sc_read_level fun f cdv A outer s H E hr => ?_
  have tk := takesN_cx (P := P) (w := w) (K := K) (mg := mg) (base := base) (N := ["text", "level"]) (qual := "read_level") (scope := defScope s_read_level) (f := f) (cd := cdv) (A := A) (outer := outer) (s := s) (H := H) (E := E)
  have hp := passes_cx (P := P) (w := w) (K := K) (mg := mg) (base := base) (CX := L2N.CX P w) (N := ["text", "level"]) (qual := "read_level") (scope := defScope s_read_level) (f := f) (cd := cdv) (A := A) (outer := outer) (s := s) (H := H) (E := E)
  exact (ss_cons (s_for hp rfl (i_range1 rfl T.n_range (a_cons (e_add false rfl (d_cst rfl T.k_LEVEL_MOST rfl) d_int) a_nil)) (g_name 1 sc_read_level.nd)
    (ss_one (s_if (t_eq rfl hr.units (d_callN (G_level_word_n.close) (hr.mono (by omega)) tk rfl (a_cons (d_var 1) a_nil)) (d_var 0))
    (ss_one (s_ret (d_var 1)))
    ss_nil)))
    (ss_one (s_raise0N 1 rfl tk rfl rfl T.x_BadLevel T.g_BadLevel)))
theorem ok_read_row (T : Txt K mg A0 X1 X2) (Fa : Facts (mkC K A0 X1 X2)) (R : RawF K mg "read_row" s_read_row ["text"]) (G_is_name : GF P w K mg base (mkC K A0 X1 X2) "is_name" 1 1 fn_is_name) (G_read_figures : GF P w K mg base (mkC K A0 X1 X2) "read_figures" 1 1 fn_read_figures) (G_read_level : GF P w K mg base (mkC K A0 X1 X2) "read_level" 2 1 fn_read_level) : GF P w K mg base (mkC K A0 X1 X2) "read_row" 3 1 fn_read_row := by
  refine GF.mk' (k := 2) R sc_read_row fun f cdv A outer s H E hr => ?_
  have tk := takes_cx (P := P) (w := w) (K := K) (mg := mg) (base := base) (N := ["text", "parts", "rest", "k", "part", "gap", "number", "moment", "level", "name"]) (qual := "read_row") (scope := defScope s_read_row) (f := f) (cd := cdv) (A := A) (outer := outer) (s := s) (H := H) (E := E)
  have hp := passes_cx (P := P) (w := w) (K := K) (mg := mg) (base := base) (CX := L2.CX P w) (N := ["text", "parts", "rest", "k", "part", "gap", "number", "moment", "level", "name"]) (qual := "read_row") (scope := defScope s_read_row) (f := f) (cd := cdv) (A := A) (outer := outer) (s := s) (H := H) (E := E)
  exact (ss_cons (s_set 1 sc_read_row.nd (d_lst true a_nil))
    (ss_cons (s_set 2 sc_read_row.nd (d_var 0))
    (ss_cons (s_for hp rfl (i_range1 rfl T.n_range (a_cons d_int a_nil)) (g_name 3 sc_read_row.nd)
    (ss_cons (s_asg (e_partition1 rfl (d_var 2) (a_cons (d_str [32]) a_nil)) (g_tup rfl rfl (gs_cons (g_name 4 sc_read_row.nd) (gs_cons (g_name 5 sc_read_row.nd) (gs_cons (g_name 2 sc_read_row.nd) gs_nil)))))
    (ss_cons (s_if (t_eq rfl hr.units (d_var 5) (d_str []))
    (ss_one (s_raise0 2 rfl tk rfl rfl T.x_BadRow T.g_BadRow))
    ss_nil)
    (ss_one (s_expr (e_append rfl (d_var 1) (a_cons (d_var 4) a_nil)))))))
    (ss_cons (s_set 6 sc_read_row.nd (d_call (G_read_figures.close) (hr.mono (by omega)) tk rfl (a_cons (d_ix rfl (hu1 hr.units) (d_var 1) d_int) a_nil)))
    (ss_cons (s_set 7 sc_read_row.nd (d_call (G_read_figures.close) (hr.mono (by omega)) tk rfl (a_cons (d_ix rfl (hu1 hr.units) (d_var 1) d_int) a_nil)))
    (ss_cons (s_try 1 rfl rfl rfl ⟨rfl, by decide, .inl T.g_BadLevel⟩ tk T.m_BadLevel (fun W1 pn xe tk hp => (ss_one (s_set 8 sc_read_row.nd (d_call (G_read_level.close) (hr.mono (by omega)) tk rfl (a_cons (d_ix rfl (hu1 hr.units) (d_var 1) d_int) a_nil))))) (fun a pn => (ss_one s_bad)))
    (ss_cons (s_set 9 sc_read_row.nd (d_ix rfl (hu1 hr.units) (d_var 1) d_int))
    (ss_cons (s_if (t_eq rfl hr.units (d_var 9) (d_str [42]))
    (ss_one (s_set 9 sc_read_row.nd (d_str [])))
    (ss_one (s_if (DW.t (w_or (t_eq rfl hr.units (d_var 9) (d_str [])) (w_or1 (t_not (t_tru rfl (d_call (G_is_name.close) (hr.mono (by omega)) tk rfl (a_cons (d_var 9) a_nil)))))))
    (ss_one (s_raise0 2 rfl tk rfl rfl T.x_BadRow T.g_BadRow))
    ss_nil)))
    (ss_cons (s_if (DW.t (w_or (t_eq rfl hr.units (d_var 6) d_int) (w_or1 (t_gt (e_len rfl T.n_len rfl (a_cons (d_var 2) a_nil)) (d_cst rfl T.k_WORDS_MOST rfl)))))
    (ss_one (s_raise0 2 rfl tk rfl rfl T.x_BadRow T.g_BadRow))
    ss_nil)
    (ss_one (s_ret (d_tup (a_cons (d_var 6) (a_cons (d_tup (a_cons (d_var 7) (a_cons (d_var 8) (a_cons (d_var 9) (a_cons (d_var 2) a_nil))))) a_nil))))))))))))))
theorem ok_read_row_f (T : Txt K mg A0 X1 X2) (Fa : Facts (mkC K A0 X1 X2)) (R : RawF K mg "read_row" s_read_row ["text"]) (G_is_name : GF P w K mg base (mkC K A0 X1 X2) "is_name" 1 1 fn_is_name) (G_read_figures : GF P w K mg base (mkC K A0 X1 X2) "read_figures" 1 1 fn_read_figures) (G_read_level_n : GN P w K mg base (mkC K A0 X1 X2) "read_level" 3 1 fn_read_level) : GF P w K mg base (mkC K A0 X1 X2) "read_row" 4 1 fn_read_row_f := by
  refine GF.mk' (k := 3) R sc_read_row fun f cdv A outer s H E hr => ?_
  have tk := takes_cx (P := P) (w := w) (K := K) (mg := mg) (base := base) (N := ["text", "parts", "rest", "k", "part", "gap", "number", "moment", "level", "name"]) (qual := "read_row") (scope := defScope s_read_row) (f := f) (cd := cdv) (A := A) (outer := outer) (s := s) (H := H) (E := E)
  have hp := passes_cx (P := P) (w := w) (K := K) (mg := mg) (base := base) (CX := L2.CX P w) (N := ["text", "parts", "rest", "k", "part", "gap", "number", "moment", "level", "name"]) (qual := "read_row") (scope := defScope s_read_row) (f := f) (cd := cdv) (A := A) (outer := outer) (s := s) (H := H) (E := E)
  exact (ss_cons (s_set 1 sc_read_row.nd (d_lst true a_nil))
    (ss_cons (s_set 2 sc_read_row.nd (d_var 0))
    (ss_cons (s_for hp rfl (i_range1 rfl T.n_range (a_cons d_int a_nil)) (g_name 3 sc_read_row.nd)
    (ss_cons (s_asg (e_partition1 rfl (d_var 2) (a_cons (d_str [32]) a_nil)) (g_tup rfl rfl (gs_cons (g_name 4 sc_read_row.nd) (gs_cons (g_name 5 sc_read_row.nd) (gs_cons (g_name 2 sc_read_row.nd) gs_nil)))))
    (ss_cons (s_if (t_eq rfl hr.units (d_var 5) (d_str []))
    (ss_one (s_raise0 2 rfl tk rfl rfl T.x_BadRow T.g_BadRow))
    ss_nil)
    (ss_one (s_expr (e_append rfl (d_var 1) (a_cons (d_var 4) a_nil)))))))
    (ss_cons (s_set 6 sc_read_row.nd (d_call (G_read_figures.close) (hr.mono (by omega)) tk rfl (a_cons (d_ix rfl (hu1 hr.units) (d_var 1) d_int) a_nil)))
    (ss_cons (s_set 7 sc_read_row.nd (d_call (G_read_figures.close) (hr.mono (by omega)) tk rfl (a_cons (d_ix rfl (hu1 hr.units) (d_var 1) d_int) a_nil)))
    (ss_cons (s_tryFrom 1 2 rfl rfl rfl ⟨rfl, by decide, .inl T.g_BadLevel⟩ tk (L2H.passesAt_of rfl) T.m_BadLevel rfl T.x_BadRow T.g_BadRow (fun W1 pn xe tk hp => (ss_one (s_set 8 sc_read_row.nd (d_callN (G_read_level_n.close) (hr.mono (by omega)) tk rfl (a_cons (d_ix rfl (hu1 hr.units) (d_var 1) d_int) a_nil))))))
    (ss_cons (s_set 9 sc_read_row.nd (d_ix rfl (hu1 hr.units) (d_var 1) d_int))
    (ss_cons (s_if (t_eq rfl hr.units (d_var 9) (d_str [42]))
    (ss_one (s_set 9 sc_read_row.nd (d_str [])))
    (ss_one (s_if (DW.t (w_or (t_eq rfl hr.units (d_var 9) (d_str [])) (w_or1 (t_not (t_tru rfl (d_call (G_is_name.close) (hr.mono (by omega)) tk rfl (a_cons (d_var 9) a_nil)))))))
    (ss_one (s_raise0 2 rfl tk rfl rfl T.x_BadRow T.g_BadRow))
    ss_nil)))
    (ss_cons (s_if (DW.t (w_or (t_eq rfl hr.units (d_var 6) d_int) (w_or1 (t_gt (e_len rfl T.n_len rfl (a_cons (d_var 2) a_nil)) (d_cst rfl T.k_WORDS_MOST rfl)))))
    (ss_one (s_raise0 2 rfl tk rfl rfl T.x_BadRow T.g_BadRow))
    ss_nil)
    (ss_one (s_ret (d_tup (a_cons (d_var 6) (a_cons (d_tup (a_cons (d_var 7) (a_cons (d_var 8) (a_cons (d_var 9) (a_cons (d_var 2) a_nil))))) a_nil))))))))))))))
theorem ok__law_told (T : Txt K mg A0 X1 X2) (Fa : Facts (mkC K A0 X1 X2)) (R : RawF K mg "_law_told" s__law_told ["_law_text"]) (G_read_row_f : GF P w K mg base (mkC K A0 X1 X2) "read_row" 4 1 fn_read_row_f) : GF P w K mg base (mkC K A0 X1 X2) "_law_told" 5 1 fn__law_told := by
  refine GF.mk' (k := 4) R sc__law_told fun f cdv A outer s H E hr => ?_
  have tk := takes_cx (P := P) (w := w) (K := K) (mg := mg) (base := base) (N := ["_law_text", "_law_found"]) (qual := "_law_told") (scope := defScope s__law_told) (f := f) (cd := cdv) (A := A) (outer := outer) (s := s) (H := H) (E := E)
  have hp := passes_cx (P := P) (w := w) (K := K) (mg := mg) (base := base) (CX := L2.CX P w) (N := ["_law_text", "_law_found"]) (qual := "_law_told") (scope := defScope s__law_told) (f := f) (cd := cdv) (A := A) (outer := outer) (s := s) (H := H) (E := E)
  exact (ss_cons (s_set 1 sc__law_told.nd d_non)
    (ss_cons (s_try 2 rfl rfl rfl ⟨rfl, by decide, .inl T.g_BadRow⟩ tk T.m_BadRow (fun W1 pn xe tk hp => (ss_one (s_set 1 sc__law_told.nd (d_call (G_read_row_f.close) (hr.mono (by omega)) tk rfl (a_cons (d_var 0) a_nil))))) (fun a pn => (ss_one (s_set 1 sc__law_told.nd (d_str [114, 101, 102, 117, 115, 101, 100])))))
    (ss_one (s_ret (d_var 1)))))
theorem ok_law {f : Addr} {fd : FuncData} (T : Txt K mg A0 X1 X2) (Fa : Facts (mkC K A0 X1 X2)) (F : Fun K "law" "law" s_law f fd) (G__law_d : GF P w K mg base (mkC K A0 X1 X2) "_law_d" 1 3 fn__law_d) (G__law_or : GF P w K mg base (mkC K A0 X1 X2) "_law_or" 1 1 fn__law_or) (G__law_parsed : GF P w K mg base (mkC K A0 X1 X2) "_law_parsed" 2 1 fn__law_parsed) (G__law_record : GF P w K mg base (mkC K A0 X1 X2) "_law_record" 3 1 fn__law_record) (G__law_row : GF P w K mg base (mkC K A0 X1 X2) "_law_row" 2 2 fn__law_row) (G__law_same : GF P w K mg base (mkC K A0 X1 X2) "_law_same" 100 2 (fn__law_same 100)) (G__law_told : GF P w K mg base (mkC K A0 X1 X2) "_law_told" 5 1 fn__law_told) : FnOk P w K mg base (L2.CX P w) 101 f fd ["_law_script"] (spD (mkC K A0 X1 X2) 1 fn_law) := by
  refine fn_okD (k := 100) F sc_law fun cdv A outer s H E hr => ?_
  have tk := takes_cx (P := P) (w := w) (K := K) (mg := mg) (base := base) (N := ["_law_script", "_law_cell", "_law_more", "_law_text", "_law_at", "_law_near", "_law_sign", "_law_things", "_law_thing"]) (qual := "law") (scope := defScope s_law) (f := f) (cd := cdv) (A := A) (outer := outer) (s := s) (H := H) (E := E)
  have hp := passes_cx (P := P) (w := w) (K := K) (mg := mg) (base := base) (CX := L2.CX P w) (N := ["_law_script", "_law_cell", "_law_more", "_law_text", "_law_at", "_law_near", "_law_sign", "_law_things", "_law_thing"]) (qual := "law") (scope := defScope s_law) (f := f) (cd := cdv) (A := A) (outer := outer) (s := s) (H := H) (E := E)
  exact (ss_cons (s_for hp rfl (i_zip rfl rfl T.n_zip (a_cons (d_slK false rfl (d_var 0) o_none (o_some d_int)) (a_cons (d_slK false rfl (d_var 0) (o_some d_int) (o_some d_int)) a_nil))) (g_tup rfl rfl (gs_cons (g_name 1 sc_law.nd) (gs_cons (g_name 2 sc_law.nd) gs_nil)))
    (ss_cons (s_set 3 sc_law.nd (d_call (G__law_row.close) (hr.mono (by omega)) tk rfl (a_cons (d_ix rfl (hu1 hr.units) (d_lst false (a_cons (e_add false rfl (e_mod (e_fdiv (d_var 1) d_int) d_int) d_int) (a_cons (d_call (G__law_d.close) (hr.mono (by omega)) tk rfl (a_cons (d_var 1) (a_cons d_int (a_cons d_int a_nil)))) a_nil))) (d_call (G__law_d.close) (hr.mono (by omega)) tk rfl (a_cons (d_var 1) (a_cons d_int (a_cons d_int a_nil))))) (a_cons (d_call (G__law_record.close) (hr.mono (by omega)) tk rfl (a_cons (d_var 1) a_nil)) a_nil))))
    (ss_cons (s_set 4 sc_law.nd (e_mod (d_var 2) (e_add false rfl (e_len rfl T.n_len rfl (a_cons (d_var 3) a_nil)) d_int)))
    (ss_cons (s_set 5 sc_law.nd (e_mod (e_mod (e_fdiv (d_var 2) d_int) d_int) (e_add false rfl (e_len rfl T.n_len rfl (a_cons (d_var 3) a_nil)) d_int)))
    (ss_consG (sg_setIx 6 [32, 48, 42, 46, 43, 97, 122, 57, 65, 34, 45, 95] rfl (hu1 hr.units) sc_law.nd (e_mod (e_fdiv (d_var 2) d_int) d_int))
    (st_consT (dp_ofS (s_set 7 sc_law.nd (d_lst false (a_cons (d_var 3) (a_cons (d_slice false rfl (d_var 3) o_none (o_some (d_var 4))) (a_cons (e_add false rfl (e_add false rfl (d_slice false rfl (d_var 3) o_none (o_some (d_var 4))) (d_var 6)) (d_slice false rfl (d_var 3) (o_some (d_var 4)) o_none)) (a_cons (e_add false rfl (e_add false rfl (d_slice false rfl (d_var 3) o_none (o_some (d_var 5))) (d_var 6)) (d_slice false rfl (d_var 3) (o_some (e_add false rfl (d_var 5) d_int)) o_none)) (a_cons (e_add false rfl (d_str [48]) (d_var 3)) a_nil))))))))
    (st_consT (dp_ofS (s_set 7 sc_law.nd (e_add false rfl (d_var 7) (d_lst false (a_cons (e_add false rfl (d_slice false rfl (d_var 3) o_none (o_some (d_var 5))) (d_slice false rfl (d_var 3) (o_some (e_add false rfl (d_var 5) d_int)) o_none)) (a_cons (e_add false rfl (d_var 3) (e_mulS2 (d_str [120]) (d_call (G__law_d.close) (hr.mono (by omega)) tk rfl (a_cons (d_var 1) (a_cons d_int (a_cons d_int a_nil)))))) a_nil))))))
    (st_consT (dp_ofS (s_set 7 sc_law.nd (e_add false rfl (d_var 7) (d_lst false (a_cons (e_add false rfl (d_slice false rfl (d_var 3) o_none (o_some (d_var 5))) (d_var 3)) (a_cons (e_add false rfl (d_str [32]) (d_var 3)) a_nil))))))
    (st_consT (dp_set1 7 sc_law.nd (et_add false rfl (dt_of (d_var 7)) (et_lst false (at_cons (t_replN [32] [32, 48] 1 (d_var 3)) (at_cons (t_replN [32] [32, 32] 1 (d_var 3)) (at_cons (dt_of (e_add false rfl (e_mulS2 (d_str [49]) (e_mod (d_var 2) d_int)) (d_var 3))) (at_cons (dt_of (d_str [])) at_nil)))))))
    (st_of (ss_one (s_for hp rfl (i_seq rfl (d_var 7)) (g_name 8 sc_law.nd)
    (ss_one (s_if (DW.t (w_and (t_le (e_len rfl T.n_len rfl (a_cons (d_var 8) a_nil)) d_int) (w_and1 (t_not (t_tru rfl (d_call (G__law_same.close) (hr.mono (by omega)) tk rfl (a_cons (d_call (G__law_told.close) (hr.mono (by omega)) tk rfl (a_cons (d_var 8) a_nil)) (a_cons (d_call (G__law_or.close) (hr.mono (by omega)) tk rfl (a_cons (d_call (G__law_parsed.close) (hr.mono (by omega)) tk rfl (a_cons (d_var 8) a_nil)) a_nil)) a_nil))))))))
    (ss_one (s_ret d_bl))
    ss_nil))))))))))))))
    (ss_one (s_ret d_bl)))
theorem ok_all {f : Addr} {fd : FuncData} (T : Txt K mg A0 X1 X2) (Fa : Facts (mkC K A0 X1 X2)) (R__law_d : RawF K mg "_law_d" s__law_d ["_law_cell", "_law_spot", "_law_many"]) (R__law_or : RawF K mg "_law_or" s__law_or ["_law_due"]) (R__law_level : RawF K mg "_law_level" s__law_level ["_law_level_here"]) (R__law_number : RawF K mg "_law_number" s__law_number ["_law_text"]) (R__law_parsed : RawF K mg "_law_parsed" s__law_parsed ["_law_text"]) (R__law_mix : RawF K mg "_law_mix" s__law_mix ["_law_cell", "_law_prime", "_law_many"]) (R__law_name : RawF K mg "_law_name" s__law_name ["_law_cell"]) (R__law_words : RawF K mg "_law_words" s__law_words ["_law_cell", "_law_most"]) (R__law_record : RawF K mg "_law_record" s__law_record ["_law_cell"]) (R__law_row : RawF K mg "_law_row" s__law_row ["_law_number_here", "_law_record_here"]) (R__law_same : RawF K mg "_law_same" s__law_same ["_law_told_here", "_law_due"]) (R_is_name : RawF K mg "is_name" s_is_name ["thing"]) (R_read_figures : RawF K mg "read_figures" s_read_figures ["text"]) (R_level_word : RawF K mg "level_word" s_level_word ["level"]) (R_read_level : RawF K mg "read_level" s_read_level ["text"]) (R_read_row : RawF K mg "read_row" s_read_row ["text"]) (R__law_told : RawF K mg "_law_told" s__law_told ["_law_text"]) (F : Fun K "law" "law" s_law f fd) : FnOk P w K mg base (L2.CX P w) 101 f fd ["_law_script"] (spD (mkC K A0 X1 X2) 1 fn_law) := by
  have G__law_d : GF P w K mg base (mkC K A0 X1 X2) "_law_d" 1 3 fn__law_d := ok__law_d T Fa R__law_d 
  have G__law_or : GF P w K mg base (mkC K A0 X1 X2) "_law_or" 1 1 fn__law_or := ok__law_or T Fa R__law_or 
  have G__law_level : GF P w K mg base (mkC K A0 X1 X2) "_law_level" 1 1 fn__law_level := ok__law_level T Fa R__law_level 
  have G__law_number : GF P w K mg base (mkC K A0 X1 X2) "_law_number" 1 1 fn__law_number := ok__law_number T Fa R__law_number 
  have G__law_parsed : GF P w K mg base (mkC K A0 X1 X2) "_law_parsed" 2 1 fn__law_parsed := ok__law_parsed T Fa R__law_parsed G__law_level G__law_number
  have G__law_mix : GF P w K mg base (mkC K A0 X1 X2) "_law_mix" 1 3 fn__law_mix := ok__law_mix T Fa R__law_mix 
  have G__law_name : GF P w K mg base (mkC K A0 X1 X2) "_law_name" 2 1 fn__law_name := ok__law_name T Fa R__law_name G__law_d
  have G__law_words : GF P w K mg base (mkC K A0 X1 X2) "_law_words" 2 2 fn__law_words := ok__law_words T Fa R__law_words G__law_d
  have G__law_record : GF P w K mg base (mkC K A0 X1 X2) "_law_record" 3 1 fn__law_record := ok__law_record T Fa R__law_record G__law_d G__law_mix G__law_name G__law_words
  have G__law_row : GF P w K mg base (mkC K A0 X1 X2) "_law_row" 2 2 fn__law_row := ok__law_row T Fa R__law_row G__law_level
  have G__law_same := grp_ok__law_same (P := P) (w := w) (base := base) T Fa R__law_same  100
  have G_is_name : GF P w K mg base (mkC K A0 X1 X2) "is_name" 1 1 fn_is_name := ok_is_name T Fa R_is_name 
  have G_read_figures : GF P w K mg base (mkC K A0 X1 X2) "read_figures" 1 1 fn_read_figures := ok_read_figures T Fa R_read_figures 
  have G_level_word : GF P w K mg base (mkC K A0 X1 X2) "level_word" 1 1 fn_level_word := ok_level_word T Fa R_level_word 
  have G_level_word_n : GN P w K mg base (mkC K A0 X1 X2) "level_word" 2 1 fn_level_word := ok_level_word_n T Fa R_level_word 
  have G_read_level : GF P w K mg base (mkC K A0 X1 X2) "read_level" 2 1 fn_read_level := ok_read_level T Fa R_read_level G_level_word
  have G_read_level_n : GN P w K mg base (mkC K A0 X1 X2) "read_level" 3 1 fn_read_level := ok_read_level_n T Fa R_read_level G_level_word_n
  have G_read_row : GF P w K mg base (mkC K A0 X1 X2) "read_row" 3 1 fn_read_row := ok_read_row T Fa R_read_row G_is_name G_read_figures G_read_level
  have G_read_row_f : GF P w K mg base (mkC K A0 X1 X2) "read_row" 4 1 fn_read_row_f := ok_read_row_f T Fa R_read_row G_is_name G_read_figures G_read_level_n
  have G__law_told : GF P w K mg base (mkC K A0 X1 X2) "_law_told" 5 1 fn__law_told := ok__law_told T Fa R__law_told G_read_row_f
  exact ok_law T Fa F G__law_d G__law_or G__law_parsed G__law_record G__law_row G__law_same G__law_told
end
theorem all_mk {P : Program} {w : World} {K : PySem.W.Frag} {mg : Str → Option Value} {h : Heap} {fa : Addr} {A0 X1 X2 : Addr} {t_DEEP_MOST : Tok} {t_FIGURES_MOST : Tok} {t_LEVEL_MOST : Tok} {t_PART_MOST : Tok} {z_SIGNS : Str} {t_SIGNS : Tok} {p_WORDS : Addr} {dd_WORDS : Option Addr} {its_WORDS : Array Value} {m_WORDS : Nat} {sl_WORDS : Array (Option Value)} {t_WORDS_MOST : Tok} {f__law_d : Addr} {oc__law_d kV__law_d dc__law_d pm__law_d cd__law_d ct__law_d : Value} {od__law_d an__law_d : Option Addr} {sl__law_d : Array (Option Value)} {f__law_or : Addr} {oc__law_or kV__law_or dc__law_or pm__law_or cd__law_or ct__law_or : Value} {od__law_or an__law_or : Option Addr} {sl__law_or : Array (Option Value)} {f__law_level : Addr} {oc__law_level kV__law_level dc__law_level pm__law_level cd__law_level ct__law_level : Value} {od__law_level an__law_level : Option Addr} {sl__law_level : Array (Option Value)} {f__law_number : Addr} {oc__law_number kV__law_number dc__law_number pm__law_number cd__law_number ct__law_number : Value} {od__law_number an__law_number : Option Addr} {sl__law_number : Array (Option Value)} {f__law_parsed : Addr} {oc__law_parsed kV__law_parsed dc__law_parsed pm__law_parsed cd__law_parsed ct__law_parsed : Value} {od__law_parsed an__law_parsed : Option Addr} {sl__law_parsed : Array (Option Value)} {f__law_mix : Addr} {oc__law_mix kV__law_mix dc__law_mix pm__law_mix cd__law_mix ct__law_mix : Value} {od__law_mix an__law_mix : Option Addr} {sl__law_mix : Array (Option Value)} {f__law_name : Addr} {oc__law_name kV__law_name dc__law_name pm__law_name cd__law_name ct__law_name : Value} {od__law_name an__law_name : Option Addr} {sl__law_name : Array (Option Value)} {f__law_words : Addr} {oc__law_words kV__law_words dc__law_words pm__law_words cd__law_words ct__law_words : Value} {od__law_words an__law_words : Option Addr} {sl__law_words : Array (Option Value)} {f__law_record : Addr} {oc__law_record kV__law_record dc__law_record pm__law_record cd__law_record ct__law_record : Value} {od__law_record an__law_record : Option Addr} {sl__law_record : Array (Option Value)} {f__law_row : Addr} {oc__law_row kV__law_row dc__law_row pm__law_row cd__law_row ct__law_row : Value} {od__law_row an__law_row : Option Addr} {sl__law_row : Array (Option Value)} {f__law_same : Addr} {oc__law_same kV__law_same dc__law_same pm__law_same cd__law_same ct__law_same : Value} {od__law_same an__law_same : Option Addr} {sl__law_same : Array (Option Value)} {f_is_name : Addr} {oc_is_name kV_is_name dc_is_name pm_is_name cd_is_name ct_is_name : Value} {od_is_name an_is_name : Option Addr} {sl_is_name : Array (Option Value)} {f_read_figures : Addr} {oc_read_figures kV_read_figures dc_read_figures pm_read_figures cd_read_figures ct_read_figures : Value} {od_read_figures an_read_figures : Option Addr} {sl_read_figures : Array (Option Value)} {f_level_word : Addr} {oc_level_word kV_level_word dc_level_word pm_level_word cd_level_word ct_level_word : Value} {od_level_word an_level_word : Option Addr} {sl_level_word : Array (Option Value)} {f_read_level : Addr} {oc_read_level kV_read_level dc_read_level pm_read_level cd_read_level ct_read_level : Value} {od_read_level an_read_level : Option Addr} {sl_read_level : Array (Option Value)} {f_read_row : Addr} {oc_read_row kV_read_row dc_read_row pm_read_row cd_read_row ct_read_row : Value} {od_read_row an_read_row : Option Addr} {sl_read_row : Array (Option Value)} {f__law_told : Addr} {oc__law_told kV__law_told dc__law_told pm__law_told cd__law_told ct__law_told : Value} {od__law_told an__law_told : Option Addr} {sl__law_told : Array (Option Value)} {f_law : Addr} {oc_law kV_law dc_law pm_law cd_law ct_law : Value} {od_law an_law : Option Addr} {sl_law : Array (Option Value)} (X : K.In h) (G : h.Ns mainGlobals mg) (hfa : mg "law" = some (.ref fa))
    (hn_all : PySem.W.nsIn K mainGlobals "all" = some none)
    (hn_bool : PySem.W.nsIn K mainGlobals "bool" = some none)
    (hn_int : PySem.W.nsIn K mainGlobals "int" = some none)
    (hn_isinstance : PySem.W.nsIn K mainGlobals "isinstance" = some none)
    (hn_len : PySem.W.nsIn K mainGlobals "len" = some none)
    (hn_min : PySem.W.nsIn K mainGlobals "min" = some none)
    (hn_range : PySem.W.nsIn K mainGlobals "range" = some none)
    (hn_str : PySem.W.nsIn K mainGlobals "str" = some none)
    (hn_tuple : PySem.W.nsIn K mainGlobals "tuple" = some none)
    (hn_zip : PySem.W.nsIn K mainGlobals "zip" = some none)
    (hc_DEEP_MOST : PySem.W.nsIn K mainGlobals "DEEP_MOST" = some (some (.int 6 t_DEEP_MOST)))
    (hc_FIGURES_MOST : PySem.W.nsIn K mainGlobals "FIGURES_MOST" = some (some (.int 9 t_FIGURES_MOST)))
    (hc_LEVEL_MOST : PySem.W.nsIn K mainGlobals "LEVEL_MOST" = some (some (.int 99 t_LEVEL_MOST)))
    (hc_PART_MOST : PySem.W.nsIn K mainGlobals "PART_MOST" = some (some (.int 8 t_PART_MOST)))
    (hc_SIGNS : PySem.W.nsIn K mainGlobals "SIGNS" = some (some (.str z_SIGNS t_SIGNS)))
    (he_SIGNS : z_SIGNS = ⟨([97, 98, 99, 100, 101, 102, 103, 104, 105, 106, 107, 108, 109, 110, 111, 112, 113, 114, 115, 116, 117, 118, 119, 120, 121, 122, 48, 49, 50, 51, 52, 53, 54, 55, 56, 57, 95] : List Nat).toArray⟩)
    (hc_WORDS : PySem.W.nsIn K mainGlobals "WORDS" = some (some (.ref p_WORDS)))
    (hl_WORDS : K.lookup p_WORDS = some ⟨.type "tuple", dd_WORDS, .seq its_WORDS m_WORDS, sl_WORDS⟩)
    (hi_WORDS : Paired (fun (z : Str) (u : Value) => ∃ t, u = Value.str z t) (["all", "debug", "info", "warn", "error", "fatal"] : List Str) its_WORDS.toList)
    (hs_WORDS : its_WORDS.size ≤ sizeLine)
    (hc_WORDS_MOST : PySem.W.nsIn K mainGlobals "WORDS_MOST" = some (some (.int 80 t_WORDS_MOST)))
    (hg_BadLevel : PySem.W.nsIn K mainGlobals "BadLevel" = some (some (.ref X1)))
    (hg_BadRow : PySem.W.nsIn K mainGlobals "BadRow" = some (some (.ref X2)))
    (hq_BadLevel : PySem.W.excIn K X1 [.type "ValueError", .type "Exception", .type "BaseException", .type "object"] "ValueError.__new__" = true)
    (hi_BadLevel : PySem.W.isClsIn K X1 = true)
    (hk_BadLevel : PySem.W.keepIn K (.ref X1) = true)
    (hs_BadLevel : PySem.W.subIn K (.ref X1) (.type "BaseException") = some true)
    (ht_BadLevel : PySem.W.typeIn K (.ref X1) = some (.type "type"))
    (hm_BadLevel_BadLevel : PySem.W.subIn K (.ref X1) (.ref X1) = some true)
    (hm_BadRow_BadLevel : PySem.W.subIn K (.ref X2) (.ref X1) = some false)
    (hq_BadRow : PySem.W.excIn K X2 [.type "ValueError", .type "Exception", .type "BaseException", .type "object"] "ValueError.__new__" = true)
    (hi_BadRow : PySem.W.isClsIn K X2 = true)
    (hk_BadRow : PySem.W.keepIn K (.ref X2) = true)
    (hs_BadRow : PySem.W.subIn K (.ref X2) (.type "BaseException") = some true)
    (ht_BadRow : PySem.W.typeIn K (.ref X2) = some (.type "type"))
    (hm_BadLevel_BadRow : PySem.W.subIn K (.ref X1) (.ref X2) = some false)
    (hm_BadRow_BadRow : PySem.W.subIn K (.ref X2) (.ref X2) = some true)
    (ha__law_d : PySem.W.nsIn K mainGlobals "_law_d" = some (some (.ref f__law_d)))
    (hl__law_d : K.lookup f__law_d = some ⟨oc__law_d, od__law_d, .func (PySem.W.fnOf "_law_d" "_law_d" (defArgs s__law_d) (defBody s__law_d) (defScope s__law_d) .none kV__law_d dc__law_d pm__law_d an__law_d cd__law_d ct__law_d), sl__law_d⟩)
    (hcd__law_d : PySem.W.codeIn K cd__law_d "_law_d" = true)
    (hkp__law_d : PySem.W.keepIn K (.ref f__law_d) = true)
    (ha__law_or : PySem.W.nsIn K mainGlobals "_law_or" = some (some (.ref f__law_or)))
    (hl__law_or : K.lookup f__law_or = some ⟨oc__law_or, od__law_or, .func (PySem.W.fnOf "_law_or" "_law_or" (defArgs s__law_or) (defBody s__law_or) (defScope s__law_or) .none kV__law_or dc__law_or pm__law_or an__law_or cd__law_or ct__law_or), sl__law_or⟩)
    (hcd__law_or : PySem.W.codeIn K cd__law_or "_law_or" = true)
    (hkp__law_or : PySem.W.keepIn K (.ref f__law_or) = true)
    (ha__law_level : PySem.W.nsIn K mainGlobals "_law_level" = some (some (.ref f__law_level)))
    (hl__law_level : K.lookup f__law_level = some ⟨oc__law_level, od__law_level, .func (PySem.W.fnOf "_law_level" "_law_level" (defArgs s__law_level) (defBody s__law_level) (defScope s__law_level) .none kV__law_level dc__law_level pm__law_level an__law_level cd__law_level ct__law_level), sl__law_level⟩)
    (hcd__law_level : PySem.W.codeIn K cd__law_level "_law_level" = true)
    (hkp__law_level : PySem.W.keepIn K (.ref f__law_level) = true)
    (ha__law_number : PySem.W.nsIn K mainGlobals "_law_number" = some (some (.ref f__law_number)))
    (hl__law_number : K.lookup f__law_number = some ⟨oc__law_number, od__law_number, .func (PySem.W.fnOf "_law_number" "_law_number" (defArgs s__law_number) (defBody s__law_number) (defScope s__law_number) .none kV__law_number dc__law_number pm__law_number an__law_number cd__law_number ct__law_number), sl__law_number⟩)
    (hcd__law_number : PySem.W.codeIn K cd__law_number "_law_number" = true)
    (hkp__law_number : PySem.W.keepIn K (.ref f__law_number) = true)
    (ha__law_parsed : PySem.W.nsIn K mainGlobals "_law_parsed" = some (some (.ref f__law_parsed)))
    (hl__law_parsed : K.lookup f__law_parsed = some ⟨oc__law_parsed, od__law_parsed, .func (PySem.W.fnOf "_law_parsed" "_law_parsed" (defArgs s__law_parsed) (defBody s__law_parsed) (defScope s__law_parsed) .none kV__law_parsed dc__law_parsed pm__law_parsed an__law_parsed cd__law_parsed ct__law_parsed), sl__law_parsed⟩)
    (hcd__law_parsed : PySem.W.codeIn K cd__law_parsed "_law_parsed" = true)
    (hkp__law_parsed : PySem.W.keepIn K (.ref f__law_parsed) = true)
    (ha__law_mix : PySem.W.nsIn K mainGlobals "_law_mix" = some (some (.ref f__law_mix)))
    (hl__law_mix : K.lookup f__law_mix = some ⟨oc__law_mix, od__law_mix, .func (PySem.W.fnOf "_law_mix" "_law_mix" (defArgs s__law_mix) (defBody s__law_mix) (defScope s__law_mix) .none kV__law_mix dc__law_mix pm__law_mix an__law_mix cd__law_mix ct__law_mix), sl__law_mix⟩)
    (hcd__law_mix : PySem.W.codeIn K cd__law_mix "_law_mix" = true)
    (hkp__law_mix : PySem.W.keepIn K (.ref f__law_mix) = true)
    (ha__law_name : PySem.W.nsIn K mainGlobals "_law_name" = some (some (.ref f__law_name)))
    (hl__law_name : K.lookup f__law_name = some ⟨oc__law_name, od__law_name, .func (PySem.W.fnOf "_law_name" "_law_name" (defArgs s__law_name) (defBody s__law_name) (defScope s__law_name) .none kV__law_name dc__law_name pm__law_name an__law_name cd__law_name ct__law_name), sl__law_name⟩)
    (hcd__law_name : PySem.W.codeIn K cd__law_name "_law_name" = true)
    (hkp__law_name : PySem.W.keepIn K (.ref f__law_name) = true)
    (ha__law_words : PySem.W.nsIn K mainGlobals "_law_words" = some (some (.ref f__law_words)))
    (hl__law_words : K.lookup f__law_words = some ⟨oc__law_words, od__law_words, .func (PySem.W.fnOf "_law_words" "_law_words" (defArgs s__law_words) (defBody s__law_words) (defScope s__law_words) .none kV__law_words dc__law_words pm__law_words an__law_words cd__law_words ct__law_words), sl__law_words⟩)
    (hcd__law_words : PySem.W.codeIn K cd__law_words "_law_words" = true)
    (hkp__law_words : PySem.W.keepIn K (.ref f__law_words) = true)
    (ha__law_record : PySem.W.nsIn K mainGlobals "_law_record" = some (some (.ref f__law_record)))
    (hl__law_record : K.lookup f__law_record = some ⟨oc__law_record, od__law_record, .func (PySem.W.fnOf "_law_record" "_law_record" (defArgs s__law_record) (defBody s__law_record) (defScope s__law_record) .none kV__law_record dc__law_record pm__law_record an__law_record cd__law_record ct__law_record), sl__law_record⟩)
    (hcd__law_record : PySem.W.codeIn K cd__law_record "_law_record" = true)
    (hkp__law_record : PySem.W.keepIn K (.ref f__law_record) = true)
    (ha__law_row : PySem.W.nsIn K mainGlobals "_law_row" = some (some (.ref f__law_row)))
    (hl__law_row : K.lookup f__law_row = some ⟨oc__law_row, od__law_row, .func (PySem.W.fnOf "_law_row" "_law_row" (defArgs s__law_row) (defBody s__law_row) (defScope s__law_row) .none kV__law_row dc__law_row pm__law_row an__law_row cd__law_row ct__law_row), sl__law_row⟩)
    (hcd__law_row : PySem.W.codeIn K cd__law_row "_law_row" = true)
    (hkp__law_row : PySem.W.keepIn K (.ref f__law_row) = true)
    (ha__law_same : PySem.W.nsIn K mainGlobals "_law_same" = some (some (.ref f__law_same)))
    (hl__law_same : K.lookup f__law_same = some ⟨oc__law_same, od__law_same, .func (PySem.W.fnOf "_law_same" "_law_same" (defArgs s__law_same) (defBody s__law_same) (defScope s__law_same) .none kV__law_same dc__law_same pm__law_same an__law_same cd__law_same ct__law_same), sl__law_same⟩)
    (hcd__law_same : PySem.W.codeIn K cd__law_same "_law_same" = true)
    (hkp__law_same : PySem.W.keepIn K (.ref f__law_same) = true)
    (ha_is_name : PySem.W.nsIn K mainGlobals "is_name" = some (some (.ref f_is_name)))
    (hl_is_name : K.lookup f_is_name = some ⟨oc_is_name, od_is_name, .func (PySem.W.fnOf "is_name" "is_name" (defArgs s_is_name) (defBody s_is_name) (defScope s_is_name) .none kV_is_name dc_is_name pm_is_name an_is_name cd_is_name ct_is_name), sl_is_name⟩)
    (hcd_is_name : PySem.W.codeIn K cd_is_name "is_name" = true)
    (hkp_is_name : PySem.W.keepIn K (.ref f_is_name) = true)
    (ha_read_figures : PySem.W.nsIn K mainGlobals "read_figures" = some (some (.ref f_read_figures)))
    (hl_read_figures : K.lookup f_read_figures = some ⟨oc_read_figures, od_read_figures, .func (PySem.W.fnOf "read_figures" "read_figures" (defArgs s_read_figures) (defBody s_read_figures) (defScope s_read_figures) .none kV_read_figures dc_read_figures pm_read_figures an_read_figures cd_read_figures ct_read_figures), sl_read_figures⟩)
    (hcd_read_figures : PySem.W.codeIn K cd_read_figures "read_figures" = true)
    (hkp_read_figures : PySem.W.keepIn K (.ref f_read_figures) = true)
    (ha_level_word : PySem.W.nsIn K mainGlobals "level_word" = some (some (.ref f_level_word)))
    (hl_level_word : K.lookup f_level_word = some ⟨oc_level_word, od_level_word, .func (PySem.W.fnOf "level_word" "level_word" (defArgs s_level_word) (defBody s_level_word) (defScope s_level_word) .none kV_level_word dc_level_word pm_level_word an_level_word cd_level_word ct_level_word), sl_level_word⟩)
    (hcd_level_word : PySem.W.codeIn K cd_level_word "level_word" = true)
    (hkp_level_word : PySem.W.keepIn K (.ref f_level_word) = true)
    (ha_read_level : PySem.W.nsIn K mainGlobals "read_level" = some (some (.ref f_read_level)))
    (hl_read_level : K.lookup f_read_level = some ⟨oc_read_level, od_read_level, .func (PySem.W.fnOf "read_level" "read_level" (defArgs s_read_level) (defBody s_read_level) (defScope s_read_level) .none kV_read_level dc_read_level pm_read_level an_read_level cd_read_level ct_read_level), sl_read_level⟩)
    (hcd_read_level : PySem.W.codeIn K cd_read_level "read_level" = true)
    (hkp_read_level : PySem.W.keepIn K (.ref f_read_level) = true)
    (ha_read_row : PySem.W.nsIn K mainGlobals "read_row" = some (some (.ref f_read_row)))
    (hl_read_row : K.lookup f_read_row = some ⟨oc_read_row, od_read_row, .func (PySem.W.fnOf "read_row" "read_row" (defArgs s_read_row) (defBody s_read_row) (defScope s_read_row) .none kV_read_row dc_read_row pm_read_row an_read_row cd_read_row ct_read_row), sl_read_row⟩)
    (hcd_read_row : PySem.W.codeIn K cd_read_row "read_row" = true)
    (hkp_read_row : PySem.W.keepIn K (.ref f_read_row) = true)
    (ha__law_told : PySem.W.nsIn K mainGlobals "_law_told" = some (some (.ref f__law_told)))
    (hl__law_told : K.lookup f__law_told = some ⟨oc__law_told, od__law_told, .func (PySem.W.fnOf "_law_told" "_law_told" (defArgs s__law_told) (defBody s__law_told) (defScope s__law_told) .none kV__law_told dc__law_told pm__law_told an__law_told cd__law_told ct__law_told), sl__law_told⟩)
    (hcd__law_told : PySem.W.codeIn K cd__law_told "_law_told" = true)
    (hkp__law_told : PySem.W.keepIn K (.ref f__law_told) = true)
    (ha_law : PySem.W.nsIn K mainGlobals "law" = some (some (.ref f_law)))
    (hl_law : K.lookup f_law = some ⟨oc_law, od_law, .func (PySem.W.fnOf "law" "law" (defArgs s_law) (defBody s_law) (defScope s_law) .none kV_law dc_law pm_law an_law cd_law ct_law), sl_law⟩)
    (hcd_law : PySem.W.codeIn K cd_law "law" = true)
    (hkp_law : PySem.W.keepIn K (.ref f_law) = true)
    (main : ∀ ns : List Int, ns.length ≤ 63 → ∃ O, fn_law [.scr (ns.map D.int)] [] = .ok (.bl true) O) :
    ∃ fd : FuncData, (∀ (s : Shared) (u : Value), BindsTo s fd ⟨[u], []⟩ [("_law_script", u)]) ∧ ∀ base : Heap, K.In base → base.Ns mainGlobals mg → FnOk P w K mg base (L2.CX P w) 101 fa fd ["_law_script"] (spLaw K) := by
  have T : Txt K mg A0 X1 X2 := ⟨PySem.W.mg_of X G hg_BadLevel, ⟨hq_BadLevel, hk_BadLevel, hs_BadLevel, ht_BadLevel⟩, (fun j A' q => match j, q with | 1, q => by cases q; exact exm_mk hs_BadLevel hi_BadLevel ht_BadLevel hm_BadLevel_BadLevel | 2, q => by cases q; exact exm_mk hs_BadLevel hi_BadLevel ht_BadLevel hm_BadRow_BadLevel), PySem.W.mg_of X G hg_BadRow, ⟨hq_BadRow, hk_BadRow, hs_BadRow, ht_BadRow⟩, (fun j A' q => match j, q with | 1, q => by cases q; exact exm_mk hs_BadRow hi_BadRow ht_BadRow hm_BadLevel_BadRow | 2, q => by cases q; exact exm_mk hs_BadRow hi_BadRow ht_BadRow hm_BadRow_BadRow), PySem.W.mg_none_of X G hn_all, PySem.W.mg_none_of X G hn_bool, PySem.W.mg_none_of X G hn_int, PySem.W.mg_none_of X G hn_isinstance, PySem.W.mg_none_of X G hn_len, PySem.W.mg_none_of X G hn_min, PySem.W.mg_none_of X G hn_range, PySem.W.mg_none_of X G hn_str, PySem.W.mg_none_of X G hn_tuple, PySem.W.mg_none_of X G hn_zip, cst_int X G hc_DEEP_MOST, cst_int X G hc_FIGURES_MOST, cst_int X G hc_LEVEL_MOST, cst_int X G hc_PART_MOST, cst_str X G he_SIGNS hc_SIGNS, cst_strs (ls := [[97, 108, 108], [100, 101, 98, 117, 103], [105, 110, 102, 111], [119, 97, 114, 110], [101, 114, 114, 111, 114], [102, 97, 116, 97, 108]]) X G hc_WORDS hl_WORDS (by decide +kernel) hi_WORDS hs_WORDS, cst_int X G hc_WORDS_MOST⟩
  have Fa : Facts (mkC K A0 X1 X2) := by
    exact ⟨fun c A q => (by cases q), fun c A f q _ => (by cases q)⟩
  have b__law_d : BindOk "_law_d" "_law_d" s__law_d ["_law_cell", "_law_spot", "_law_many"] := fun _ _ _ _ _ _ us hl => match us, hl with | [_, _, _], _ => rfl
  have F__law_d : FactF K "_law_d" "_law_d" s__law_d f__law_d := ⟨_, _, _, _, _, _, _, _, _, hl__law_d, hcd__law_d, hkp__law_d⟩
  have R__law_d : RawF K mg "_law_d" s__law_d ["_law_cell", "_law_spot", "_law_many"] := rawF_mk X G b__law_d ha__law_d F__law_d
  have b__law_or : BindOk "_law_or" "_law_or" s__law_or ["_law_due"] := fun _ _ _ _ _ _ us hl => match us, hl with | [_], _ => rfl
  have F__law_or : FactF K "_law_or" "_law_or" s__law_or f__law_or := ⟨_, _, _, _, _, _, _, _, _, hl__law_or, hcd__law_or, hkp__law_or⟩
  have R__law_or : RawF K mg "_law_or" s__law_or ["_law_due"] := rawF_mk X G b__law_or ha__law_or F__law_or
  have b__law_level : BindOk "_law_level" "_law_level" s__law_level ["_law_level_here"] := fun _ _ _ _ _ _ us hl => match us, hl with | [_], _ => rfl
  have F__law_level : FactF K "_law_level" "_law_level" s__law_level f__law_level := ⟨_, _, _, _, _, _, _, _, _, hl__law_level, hcd__law_level, hkp__law_level⟩
  have R__law_level : RawF K mg "_law_level" s__law_level ["_law_level_here"] := rawF_mk X G b__law_level ha__law_level F__law_level
  have b__law_number : BindOk "_law_number" "_law_number" s__law_number ["_law_text"] := fun _ _ _ _ _ _ us hl => match us, hl with | [_], _ => rfl
  have F__law_number : FactF K "_law_number" "_law_number" s__law_number f__law_number := ⟨_, _, _, _, _, _, _, _, _, hl__law_number, hcd__law_number, hkp__law_number⟩
  have R__law_number : RawF K mg "_law_number" s__law_number ["_law_text"] := rawF_mk X G b__law_number ha__law_number F__law_number
  have b__law_parsed : BindOk "_law_parsed" "_law_parsed" s__law_parsed ["_law_text"] := fun _ _ _ _ _ _ us hl => match us, hl with | [_], _ => rfl
  have F__law_parsed : FactF K "_law_parsed" "_law_parsed" s__law_parsed f__law_parsed := ⟨_, _, _, _, _, _, _, _, _, hl__law_parsed, hcd__law_parsed, hkp__law_parsed⟩
  have R__law_parsed : RawF K mg "_law_parsed" s__law_parsed ["_law_text"] := rawF_mk X G b__law_parsed ha__law_parsed F__law_parsed
  have b__law_mix : BindOk "_law_mix" "_law_mix" s__law_mix ["_law_cell", "_law_prime", "_law_many"] := fun _ _ _ _ _ _ us hl => match us, hl with | [_, _, _], _ => rfl
  have F__law_mix : FactF K "_law_mix" "_law_mix" s__law_mix f__law_mix := ⟨_, _, _, _, _, _, _, _, _, hl__law_mix, hcd__law_mix, hkp__law_mix⟩
  have R__law_mix : RawF K mg "_law_mix" s__law_mix ["_law_cell", "_law_prime", "_law_many"] := rawF_mk X G b__law_mix ha__law_mix F__law_mix
  have b__law_name : BindOk "_law_name" "_law_name" s__law_name ["_law_cell"] := fun _ _ _ _ _ _ us hl => match us, hl with | [_], _ => rfl
  have F__law_name : FactF K "_law_name" "_law_name" s__law_name f__law_name := ⟨_, _, _, _, _, _, _, _, _, hl__law_name, hcd__law_name, hkp__law_name⟩
  have R__law_name : RawF K mg "_law_name" s__law_name ["_law_cell"] := rawF_mk X G b__law_name ha__law_name F__law_name
  have b__law_words : BindOk "_law_words" "_law_words" s__law_words ["_law_cell", "_law_most"] := fun _ _ _ _ _ _ us hl => match us, hl with | [_, _], _ => rfl
  have F__law_words : FactF K "_law_words" "_law_words" s__law_words f__law_words := ⟨_, _, _, _, _, _, _, _, _, hl__law_words, hcd__law_words, hkp__law_words⟩
  have R__law_words : RawF K mg "_law_words" s__law_words ["_law_cell", "_law_most"] := rawF_mk X G b__law_words ha__law_words F__law_words
  have b__law_record : BindOk "_law_record" "_law_record" s__law_record ["_law_cell"] := fun _ _ _ _ _ _ us hl => match us, hl with | [_], _ => rfl
  have F__law_record : FactF K "_law_record" "_law_record" s__law_record f__law_record := ⟨_, _, _, _, _, _, _, _, _, hl__law_record, hcd__law_record, hkp__law_record⟩
  have R__law_record : RawF K mg "_law_record" s__law_record ["_law_cell"] := rawF_mk X G b__law_record ha__law_record F__law_record
  have b__law_row : BindOk "_law_row" "_law_row" s__law_row ["_law_number_here", "_law_record_here"] := fun _ _ _ _ _ _ us hl => match us, hl with | [_, _], _ => rfl
  have F__law_row : FactF K "_law_row" "_law_row" s__law_row f__law_row := ⟨_, _, _, _, _, _, _, _, _, hl__law_row, hcd__law_row, hkp__law_row⟩
  have R__law_row : RawF K mg "_law_row" s__law_row ["_law_number_here", "_law_record_here"] := rawF_mk X G b__law_row ha__law_row F__law_row
  have b__law_same : BindOk "_law_same" "_law_same" s__law_same ["_law_told_here", "_law_due"] := fun _ _ _ _ _ _ us hl => match us, hl with | [_, _], _ => rfl
  have F__law_same : FactF K "_law_same" "_law_same" s__law_same f__law_same := ⟨_, _, _, _, _, _, _, _, _, hl__law_same, hcd__law_same, hkp__law_same⟩
  have R__law_same : RawF K mg "_law_same" s__law_same ["_law_told_here", "_law_due"] := rawF_mk X G b__law_same ha__law_same F__law_same
  have b_is_name : BindOk "is_name" "is_name" s_is_name ["thing"] := fun _ _ _ _ _ _ us hl => match us, hl with | [_], _ => rfl
  have F_is_name : FactF K "is_name" "is_name" s_is_name f_is_name := ⟨_, _, _, _, _, _, _, _, _, hl_is_name, hcd_is_name, hkp_is_name⟩
  have R_is_name : RawF K mg "is_name" s_is_name ["thing"] := rawF_mk X G b_is_name ha_is_name F_is_name
  have b_read_figures : BindOk "read_figures" "read_figures" s_read_figures ["text"] := fun _ _ _ _ _ _ us hl => match us, hl with | [_], _ => rfl
  have F_read_figures : FactF K "read_figures" "read_figures" s_read_figures f_read_figures := ⟨_, _, _, _, _, _, _, _, _, hl_read_figures, hcd_read_figures, hkp_read_figures⟩
  have R_read_figures : RawF K mg "read_figures" s_read_figures ["text"] := rawF_mk X G b_read_figures ha_read_figures F_read_figures
  have b_level_word : BindOk "level_word" "level_word" s_level_word ["level"] := fun _ _ _ _ _ _ us hl => match us, hl with | [_], _ => rfl
  have F_level_word : FactF K "level_word" "level_word" s_level_word f_level_word := ⟨_, _, _, _, _, _, _, _, _, hl_level_word, hcd_level_word, hkp_level_word⟩
  have R_level_word : RawF K mg "level_word" s_level_word ["level"] := rawF_mk X G b_level_word ha_level_word F_level_word
  have b_read_level : BindOk "read_level" "read_level" s_read_level ["text"] := fun _ _ _ _ _ _ us hl => match us, hl with | [_], _ => rfl
  have F_read_level : FactF K "read_level" "read_level" s_read_level f_read_level := ⟨_, _, _, _, _, _, _, _, _, hl_read_level, hcd_read_level, hkp_read_level⟩
  have R_read_level : RawF K mg "read_level" s_read_level ["text"] := rawF_mk X G b_read_level ha_read_level F_read_level
  have b_read_row : BindOk "read_row" "read_row" s_read_row ["text"] := fun _ _ _ _ _ _ us hl => match us, hl with | [_], _ => rfl
  have F_read_row : FactF K "read_row" "read_row" s_read_row f_read_row := ⟨_, _, _, _, _, _, _, _, _, hl_read_row, hcd_read_row, hkp_read_row⟩
  have R_read_row : RawF K mg "read_row" s_read_row ["text"] := rawF_mk X G b_read_row ha_read_row F_read_row
  have b__law_told : BindOk "_law_told" "_law_told" s__law_told ["_law_text"] := fun _ _ _ _ _ _ us hl => match us, hl with | [_], _ => rfl
  have F__law_told : FactF K "_law_told" "_law_told" s__law_told f__law_told := ⟨_, _, _, _, _, _, _, _, _, hl__law_told, hcd__law_told, hkp__law_told⟩
  have R__law_told : RawF K mg "_law_told" s__law_told ["_law_text"] := rawF_mk X G b__law_told ha__law_told F__law_told
  have b_law : BindOk "law" "law" s_law ["_law_script"] := fun _ _ _ _ _ _ us hl => match us, hl with | [_], _ => rfl
  have F_law : FactF K "law" "law" s_law f_law := ⟨_, _, _, _, _, _, _, _, _, hl_law, hcd_law, hkp_law⟩
  exact law_end (C := (mkC K A0 X1 X2)) rfl X G hfa b_law ha_law F_law main fun base B1 B2 fd F => ok_all T Fa R__law_d R__law_or R__law_level R__law_number R__law_parsed R__law_mix R__law_name R__law_words R__law_record R__law_row R__law_same R_is_name R_read_figures R_level_word R_read_level R_read_row R__law_told F
end Lk04
open PySem PySem.W PyProof.Rows
set_option maxRecDepth 100000 in
set_option maxHeartbeats 0 in
theorem PySem.Challenge.cw_loghall_k04_whole_texts_read_as_rows_holds : PySem.Challenge.rw_loghall_k04_whole_texts_read_as_rows.Holds := by
  w_on; o_law; k_head; (case hw => w_witness2)
  k_fill
  refine Dn.walkD (l := PySem.Challenge.rw_loghall_k04_whole_texts_read_as_rows) (x := "_law_script") (k := 101) rfl rfl ⟨rfl, by decide, by decide⟩ (fun w h Y => PySem.W.kIn_of Y) ?F
  case F =>
    intro w mg fa h KX G hmg
    refine' Lk04.all_mk (A0 := fa) KX G hmg ?n_all ?n_bool ?n_int ?n_isinstance ?n_len ?n_min ?n_range ?n_str ?n_tuple ?n_zip ?c_DEEP_MOST ?c_FIGURES_MOST ?c_LEVEL_MOST ?c_PART_MOST ?c_SIGNS ?e_SIGNS ?c_WORDS ?l_WORDS ?i_WORDS ?s_WORDS ?c_WORDS_MOST ?g_BadLevel ?g_BadRow ?q_BadLevel ?i_BadLevel ?k_BadLevel ?s_BadLevel ?t_BadLevel ?m_BadLevel_BadLevel ?m_BadRow_BadLevel ?q_BadRow ?i_BadRow ?k_BadRow ?s_BadRow ?t_BadRow ?m_BadLevel_BadRow ?m_BadRow_BadRow ?a__law_d ?l__law_d ?cd__law_d ?kp__law_d ?a__law_or ?l__law_or ?cd__law_or ?kp__law_or ?a__law_level ?l__law_level ?cd__law_level ?kp__law_level ?a__law_number ?l__law_number ?cd__law_number ?kp__law_number ?a__law_parsed ?l__law_parsed ?cd__law_parsed ?kp__law_parsed ?a__law_mix ?l__law_mix ?cd__law_mix ?kp__law_mix ?a__law_name ?l__law_name ?cd__law_name ?kp__law_name ?a__law_words ?l__law_words ?cd__law_words ?kp__law_words ?a__law_record ?l__law_record ?cd__law_record ?kp__law_record ?a__law_row ?l__law_row ?cd__law_row ?kp__law_row ?a__law_same ?l__law_same ?cd__law_same ?kp__law_same ?a_is_name ?l_is_name ?cd_is_name ?kp_is_name ?a_read_figures ?l_read_figures ?cd_read_figures ?kp_read_figures ?a_level_word ?l_level_word ?cd_level_word ?kp_level_word ?a_read_level ?l_read_level ?cd_read_level ?kp_read_level ?a_read_row ?l_read_row ?cd_read_row ?kp_read_row ?a__law_told ?l__law_told ?cd__law_told ?kp__law_told ?a_law ?l_law ?cd_law ?kp_law Lk04.main
    (case n_all => k_is)
    (case n_bool => k_is)
    (case n_int => k_is)
    (case n_isinstance => k_is)
    (case n_len => k_is)
    (case n_min => k_is)
    (case n_range => k_is)
    (case n_str => k_is)
    (case n_tuple => k_is)
    (case n_zip => k_is)
    (case c_DEEP_MOST => k_is)
    (case c_FIGURES_MOST => k_is)
    (case c_LEVEL_MOST => k_is)
    (case c_PART_MOST => k_is)
    (case c_SIGNS => k_is)
    (case e_SIGNS => first | rfl | decide +kernel)
    (case c_WORDS => k_is)
    (case l_WORDS => k_is)
    (case i_WORDS => exact .cons ⟨_, rfl⟩ (.cons ⟨_, rfl⟩ (.cons ⟨_, rfl⟩ (.cons ⟨_, rfl⟩ (.cons ⟨_, rfl⟩ (.cons ⟨_, rfl⟩ (.nil)))))))
    (case s_WORDS => decide)
    (case c_WORDS_MOST => k_is)
    (case g_BadLevel => k_is)
    (case g_BadRow => k_is)
    (case q_BadLevel => k_exc)
    (case i_BadLevel => k_is)
    (case k_BadLevel => k_is)
    (case s_BadLevel => k_is)
    (case t_BadLevel => k_is)
    (case m_BadLevel_BadLevel => first | rfl | k_is)
    (case m_BadRow_BadLevel => first | rfl | k_is)
    (case q_BadRow => k_exc)
    (case i_BadRow => k_is)
    (case k_BadRow => k_is)
    (case s_BadRow => k_is)
    (case t_BadRow => k_is)
    (case m_BadLevel_BadRow => first | rfl | k_is)
    (case m_BadRow_BadRow => first | rfl | k_is)
    (case a__law_d => k_is)
    (case l__law_d => k_is)
    (case cd__law_d => k_is)
    (case kp__law_d => k_is)
    (case a__law_or => k_is)
    (case l__law_or => k_is)
    (case cd__law_or => k_is)
    (case kp__law_or => k_is)
    (case a__law_level => k_is)
    (case l__law_level => k_is)
    (case cd__law_level => k_is)
    (case kp__law_level => k_is)
    (case a__law_number => k_is)
    (case l__law_number => k_is)
    (case cd__law_number => k_is)
    (case kp__law_number => k_is)
    (case a__law_parsed => k_is)
    (case l__law_parsed => k_is)
    (case cd__law_parsed => k_is)
    (case kp__law_parsed => k_is)
    (case a__law_mix => k_is)
    (case l__law_mix => k_is)
    (case cd__law_mix => k_is)
    (case kp__law_mix => k_is)
    (case a__law_name => k_is)
    (case l__law_name => k_is)
    (case cd__law_name => k_is)
    (case kp__law_name => k_is)
    (case a__law_words => k_is)
    (case l__law_words => k_is)
    (case cd__law_words => k_is)
    (case kp__law_words => k_is)
    (case a__law_record => k_is)
    (case l__law_record => k_is)
    (case cd__law_record => k_is)
    (case kp__law_record => k_is)
    (case a__law_row => k_is)
    (case l__law_row => k_is)
    (case cd__law_row => k_is)
    (case kp__law_row => k_is)
    (case a__law_same => k_is)
    (case l__law_same => k_is)
    (case cd__law_same => k_is)
    (case kp__law_same => k_is)
    (case a_is_name => k_is)
    (case l_is_name => k_is)
    (case cd_is_name => k_is)
    (case kp_is_name => k_is)
    (case a_read_figures => k_is)
    (case l_read_figures => k_is)
    (case cd_read_figures => k_is)
    (case kp_read_figures => k_is)
    (case a_level_word => k_is)
    (case l_level_word => k_is)
    (case cd_level_word => k_is)
    (case kp_level_word => k_is)
    (case a_read_level => k_is)
    (case l_read_level => k_is)
    (case cd_read_level => k_is)
    (case kp_read_level => k_is)
    (case a_read_row => k_is)
    (case l_read_row => k_is)
    (case cd_read_row => k_is)
    (case kp_read_row => k_is)
    (case a__law_told => k_is)
    (case l__law_told => k_is)
    (case cd__law_told => k_is)
    (case kp__law_told => k_is)
    (case a_law => k_is)
    (case l_law => k_is)
    (case cd_law => k_is)
    (case kp_law => k_is)
