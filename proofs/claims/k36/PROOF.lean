import PyProof.Rows.All
import Wide.All
import OpenK.AllK
import Wide.FinOn
import HandS.ForMost
import HandS.ForExc
import HandS.TupAny
import HandS.Evl
import HandS.Flow
import HandS.TupLe
import HandS.TupMul
import HandS.FStr
import HandS.Conv
import HandS.Zip
import HandS.IsInst
import HandS.StrMore
import HandS.StrSplit
import HandS.Style
import HandS.CallSlots
import HandS.TryOnly
import HandS.TryMany
import HandS.SuiteRaise
import HandS.RaiseFrom
import HandS.ExcOwn
import HandS.ExcInit
import HandS.ExcInitHot
import HandS.ExcField
import HandS.Deep
import HandS.Replace
import HandS.ReplaceLit
import HandS.SortRule
import HandS.SortInts
import HandS.SortKw
import HandS.Keys
import HandS.DictEq
import HandS.HotCalls
import HandS.MethStar
import HandS.ExcIs
import HandS.TryElse
import PyProof.ExcBaseAll.ValueError
import PyProof.ListMulRoad
import PyProof.FactsAll.tuple_2
import HandS.TupSets
import HandS.More
import HandS.SetKeys
import HandS.ListItems
import KE.IntTextLaws
import PySem.Challenge.RW_loghall_k36_whole_limits_by_keys
set_option Elab.async false
set_option linter.all false
set_option maxRecDepth 100000
set_option maxHeartbeats 2000000
/-! The pure layer: values as data (D), mutable things as numbered cells (Sto), a def as a function of data and cells. -/
namespace Dn
open PySem PySem.Spec PyProof.Rows L2
/-- pure data; ob l: the thing in cell l; scr: the law's script -/
inductive D where
  | non | bl (b : Bool) | int (i : Int) | str (x : List Nat) | tup (ds : List D) | lst (ds : List D) | scr (ds : List D) | ob (l : Nat)
inductive Cell where
  | ins (c : Nat) (fs : List (Nat × D))
  | lst (ds : List D)
  | dic (kvs : List (Sum Int (List Nat) × D))
abbrev DKey := Sum Int (List Nat)
abbrev Sto := List Cell
abbrev Rho := List (Option D)
structure Er where
  cls : Nat
  fs : List (Nat × D)
inductive Res (α : Type) where
  | ok (a : α) (O : Sto) | exc (e : Er) (O : Sto) | bad
abbrev ER := Res D
inductive SR where
  | nx (r : Rho) (O : Sto) | ret (d : D) (O : Sto) | bk (r : Rho) (O : Sto) | ct (r : Rho) (O : Sto) | exc (e : Er) (r : Rho) (O : Sto) | bad
abbrev DE0 := Rho → Sto → ER
abbrev DS0 := Rho → Sto → SR
/-- what is fixed: the written part, the fields' names, the classes' places -/
structure Ctx where
  K : PySem.W.Frag
  fn : Nat → Str
  fN : Nat
  finj : ∀ i j, i < fN → j < fN → fn i = fn j → i = j
  cl : Nat → Option Addr
  ec : Nat → Option Addr
  att : Nat → Nat → Bool
/-- the ghost: what is frozen, where the cells lie, how many there are -/
structure G where
  F : Hp
  θ : Nat → Addr
  n : Nat
def sV (x : List Nat) : V := .str ⟨x.toArray⟩
def kD : DKey → Key
  | .inl i => .inl i
  | .inr x => .inr ⟨x.toArray⟩
mutual
def Shr (K : PySem.W.Frag) (g : G) : D → V → Prop
  | .non, v => v = .non
  | .bl b, v => v = .bl b
  | .int i, v => v = .int i
  | .str x, v => v = sV x
  | .tup ds, v => ∃ a vs, v = .ref a ∧ SqT K g.F a vs ∧ ShrL K g ds vs
  | .lst ds, v => ∃ a vs, v = .ref a ∧ g.F a = some (.lst vs) ∧ ShrL K g ds vs
  | .scr ds, v => ∃ a vs, v = .ref a ∧ SqL K g.F a vs ∧ ShrL K g ds vs
  | .ob l, v => v = .ref (g.θ l) ∧ l < g.n
def ShrL (K : PySem.W.Frag) (g : G) : List D → List V → Prop
  | [], vs => vs = []
  | d :: ds, vs => ∃ v r, vs = v :: r ∧ Shr K g d v ∧ ShrL K g ds r
end
def ShrF (C : Ctx) (g : G) : List (Nat × D) → List (Str × V) → Prop
  | [], vs => vs = []
  | p :: ds, vs => ∃ v r, vs = (C.fn p.1, v) :: r ∧ p.1 < C.fN ∧ Shr C.K g p.2 v ∧ ShrF C g ds r
def ShrK (K : PySem.W.Frag) (g : G) : List (DKey × D) → List (Key × V) → Prop
  | [], vs => vs = []
  | p :: ds, vs => ∃ v r, vs = (kD p.1, v) :: r ∧ Shr K g p.2 v ∧ ShrK K g ds r
def CellOk (C : Ctx) (g : G) (H : Hp) (a : Addr) : Cell → Prop
  | .ins c fs => ∃ A dx vs, C.cl c = some A ∧ H a = some (.ins A dx vs) ∧ ShrF C g fs vs
  | .lst ds => ∃ vs, H a = some (.lst vs) ∧ ShrL C.K g ds vs
  | .dic kvs => ∃ vs, H a = some (.dK vs) ∧ ShrK C.K g kvs vs
structure RepO (C : Ctx) (g : G) (H : Hp) (O : Sto) : Prop where
  n : g.n = O.length
  F : ∀ a o, g.F a = some o → H a = some o
  cell : ∀ (l : Nat) c, O[l]? = some c → CellOk C g H (g.θ l) c
  fresh : ∀ l, l < g.n → g.F (g.θ l) = none
  inj : ∀ i j, i < g.n → j < g.n → g.θ i = g.θ j → i = j
structure RepS (C : Ctx) (g : G) (σ : L2.St) (r : Rho) : Prop where
  len : σ.length = r.length
  at' : ∀ (i : Nat) d, r[i]? = some (some d) → ∃ v, σ[i]? = some (some v) ∧ Shr C.K g d v
/-- the ghost grows -/
structure GLe (g g' : G) : Prop where
  F : ∀ a o, g.F a = some o → g'.F a = some o
  θ : ∀ l, l < g.n → g'.θ l = g.θ l
  n : g.n ≤ g'.n
/-- .. and the heap: what is tracked outside the cells stays; new cells are new -/
structure Ext (g : G) (H : Hp) (g' : G) (H' : Hp) : Prop where
  le : GLe g g'
  keep : ∀ a o, H a = some o → (∀ l, l < g.n → g.θ l ≠ a) → H' a = some o
  new : ∀ l, g.n ≤ l → l < g'.n → H (g'.θ l) = none
  trk : ∀ l, l < g.n → H' (g.θ l) ≠ none
  frz : ∀ a o, g'.F a = some o → g.F a = some o ∨ H a = none
end Dn
set_option Elab.async false
set_option linter.all false
set_option maxRecDepth 100000
set_option maxHeartbeats 2000000
namespace Dn
open PySem PySem.Spec PyProof.Rows L2
section
variable {C : Ctx} {K : PySem.W.Frag} {g g' g'' : G} {H H' H'' : Hp} {O : Sto} {σ : L2.St} {r : Rho}
theorem ex_rd {F F' : Hp} {a : Addr} {u : HO} (e : ∀ a o, F a = some o → F' a = some o) (h : Rd F a u) : Rd F' a u := by
  rcases h with h | ⟨o, h⟩
  · exact .inl (e a _ h)
  · exact .inr ⟨o, e a _ h⟩
theorem ex_l {F F' : Hp} {a : Addr} {xs : List V} (e : ∀ a o, F a = some o → F' a = some o) (h : SqL K F a xs) : SqL K F' a xs := by
  rcases h with h | h
  · exact .inl (ex_rd e h)
  · exact .inr h
theorem ex_t {F F' : Hp} {a : Addr} {xs : List V} (e : ∀ a o, F a = some o → F' a = some o) (h : SqT K F a xs) : SqT K F' a xs := by
  rcases h with h | h
  · exact .inl (ex_rd e h)
  · exact .inr h
mutual
theorem Shr.mono (e : GLe g g') : ∀ (d : D) (v : V), Shr K g d v → Shr K g' d v
  | .non, _, h => h
  | .bl _, _, h => h
  | .int _, _, h => h
  | .str _, _, h => h
  | .tup ds, v, h => by
    simp only [Shr] at h ⊢
    obtain ⟨a, vs, h1, h2, h3⟩ := h
    exact ⟨a, vs, h1, ex_t e.F h2, ShrL.mono e ds vs h3⟩
  | .lst ds, v, h => by
    simp only [Shr] at h ⊢
    obtain ⟨a, vs, h1, h2, h3⟩ := h
    exact ⟨a, vs, h1, e.F _ _ h2, ShrL.mono e ds vs h3⟩
  | .scr ds, v, h => by
    simp only [Shr] at h ⊢
    obtain ⟨a, vs, h1, h2, h3⟩ := h
    exact ⟨a, vs, h1, ex_l e.F h2, ShrL.mono e ds vs h3⟩
  | .ob l, v, h => by
    simp only [Shr] at h ⊢
    obtain ⟨h1, h2⟩ := h
    exact ⟨by rw [e.θ l h2]; exact h1, Nat.lt_of_lt_of_le h2 e.n⟩
theorem ShrL.mono (e : GLe g g') : ∀ (ds : List D) (vs : List V), ShrL K g ds vs → ShrL K g' ds vs
  | [], _, h => by simp only [ShrL] at h ⊢; exact h
  | d :: ds, vs, h => by
    simp only [ShrL] at h ⊢
    obtain ⟨v, q, h1, h2, h3⟩ := h
    exact ⟨v, q, h1, Shr.mono e d v h2, ShrL.mono e ds q h3⟩
end
theorem ShrF.mono (e : GLe g g') : ∀ (ds : List (Nat × D)) (vs : List (Str × V)), ShrF C g ds vs → ShrF C g' ds vs
  | [], _, h => h
  | p :: ds, vs, ⟨v, q, h1, h2, h3, h4⟩ => ⟨v, q, h1, h2, Shr.mono e _ _ h3, ShrF.mono e ds q h4⟩
theorem ShrK.mono (e : GLe g g') : ∀ (ds : List (DKey × D)) (vs : List (Key × V)), ShrK K g ds vs → ShrK K g' ds vs
  | [], _, h => h
  | p :: ds, vs, ⟨v, q, h1, h2, h3⟩ => ⟨v, q, h1, Shr.mono e _ _ h2, ShrK.mono e ds q h3⟩
theorem CellOk.mono (e : GLe g g') {a : Addr} : ∀ {c : Cell}, CellOk C g H a c → CellOk C g' H a c
  | .ins _ _, ⟨A, dx, vs, h1, h2, h3⟩ => ⟨A, dx, vs, h1, h2, h3.mono e⟩
  | .lst _, ⟨vs, h2, h3⟩ => ⟨vs, h2, ShrL.mono e _ _ h3⟩
  | .dic _, ⟨vs, h2, h3⟩ => ⟨vs, h2, h3.mono e⟩
theorem CellOk.heap {a b : Addr} (h : H a = H' b) : ∀ {c : Cell}, CellOk C g H a c → CellOk C g H' b c
  | .ins _ _, ⟨A, dx, vs, h1, h2, h3⟩ => ⟨A, dx, vs, h1, h ▸ h2, h3⟩
  | .lst _, ⟨vs, h2, h3⟩ => ⟨vs, h ▸ h2, h3⟩
  | .dic _, ⟨vs, h2, h3⟩ => ⟨vs, h ▸ h2, h3⟩
theorem CellOk.some' {a : Addr} : ∀ {c : Cell}, CellOk C g H a c → ∃ o, H a = some o ∧ Mut (some o)
  | .ins _ _, ⟨A, dx, vs, h1, h2, h3⟩ => ⟨_, h2, trivial⟩
  | .lst _, ⟨vs, h2, h3⟩ => ⟨_, h2, trivial⟩
  | .dic _, ⟨vs, h2, h3⟩ => ⟨_, h2, trivial⟩
theorem GLe.refl (g : G) : GLe g g := ⟨fun _ _ h => h, fun _ _ => rfl, Nat.le_refl _⟩
theorem GLe.trans (a : GLe g g') (b : GLe g' g'') : GLe g g'' :=
  ⟨fun x o h => b.F x o (a.F x o h), fun l h => (b.θ l (Nat.lt_of_lt_of_le h a.n)).trans (a.θ l h), Nat.le_trans a.n b.n⟩
theorem RepO.at (R : RepO C g H O) {l : Nat} (h : l < g.n) : ∃ c, O[l]? = some c ∧ CellOk C g H (g.θ l) c := by
  have hl : l < O.length := R.n ▸ h
  exact ⟨O[l], List.getElem?_eq_getElem hl, R.cell l _ (List.getElem?_eq_getElem hl)⟩
theorem RepO.trk (R : RepO C g H O) {l : Nat} (h : l < g.n) : H (g.θ l) ≠ none := by
  obtain ⟨c, _, k⟩ := R.at h
  obtain ⟨o, q, _⟩ := k.some'
  rw [q]; exact fun z => nomatch z
theorem Ext.refl (R : RepO C g H O) : Ext g H g H := ⟨GLe.refl g, fun _ _ h _ => h, fun l h h' => absurd h' (Nat.not_lt.mpr h), fun _ h => R.trk h, fun _ _ h => .inl h⟩
theorem Ext.trans (a : Ext g H g' H') (b : Ext g' H' g'' H'') : Ext g H g'' H'' where
  le := a.le.trans b.le
  keep := fun x o h n => b.keep x o (a.keep x o h n) fun l hl e => by
    by_cases q : l < g.n
    · exact n l q (by rw [← a.le.θ l q]; exact e)
    · have z := a.new l (Nat.le_of_not_lt q) hl
      rw [e, h] at z; cases z
  new := fun l h h' => by
    by_cases q : l < g'.n
    · rw [b.le.θ l q]; exact a.new l h q
    · have z := b.new l (Nat.le_of_not_lt q) h'
      cases e : H (g''.θ l) with
      | none => rfl
      | some o =>
        by_cases c : ∃ k, k < g.n ∧ g.θ k = g''.θ l
        · obtain ⟨k, hk, ek⟩ := c
          exact absurd (ek ▸ z) (a.trk k hk)
        · have z' := a.keep _ o e fun k hk ek => c ⟨k, hk, ek⟩
          rw [z] at z'; cases z'
  trk := fun l h => by
    have z := b.trk l (Nat.lt_of_lt_of_le h a.le.n)
    rw [a.le.θ l h] at z; exact z
  frz := fun x o h => by
    rcases b.frz x o h with h | h
    · exact a.frz x o h
    · refine .inr ?_
      cases e : H x with
      | none => rfl
      | some u =>
        by_cases c : ∃ k, k < g.n ∧ g.θ k = x
        · obtain ⟨k, hk, ek⟩ := c
          exact absurd (ek ▸ h) (a.trk k hk)
        · have z' := a.keep _ u e fun k hk ek => c ⟨k, hk, ek⟩
          rw [h] at z'; cases z'
theorem RepS.mono (e : GLe g g') (R : RepS C g σ r) : RepS C g' σ r := ⟨R.len, fun i d h => let ⟨v, h1, h2⟩ := R.at' i d h; ⟨v, h1, h2.mono e⟩⟩
theorem RepS.set {i : Nat} {d : D} {v : V} (R : RepS C g σ r) (h : Shr C.K g d v) : RepS C g (σ.set i (some v)) (r.set i (some d)) :=
  ⟨by simp [R.len], fun j d' hj => by
    by_cases e : i = j
    · subst e
      by_cases hi : i < r.length
      · rw [List.getElem?_set_self hi] at hj
        cases hj
        exact ⟨v, List.getElem?_set_self (by rw [R.len]; exact hi), h⟩
      · rw [List.getElem?_eq_none (by simpa using hi)] at hj; cases hj
    · rw [List.getElem?_set_ne e] at hj ⊢
      exact R.at' j d' hj⟩
/-- forgetting -/
theorem RepS.unset {i : Nat} (R : RepS C g σ r) : RepS C g σ (r.set i none) :=
  ⟨by simp [R.len], fun j d' hj => by
    by_cases e : i = j
    · subst e
      by_cases hi : i < r.length
      · rw [List.getElem?_set_self hi] at hj
        cases hj
      · rw [List.getElem?_eq_none (by simpa using hi)] at hj; cases hj
    · rw [List.getElem?_set_ne e] at hj
      exact R.at' j d' hj⟩
theorem RepS.unset2 {i : Nat} (R : RepS C g σ r) : RepS C g (σ.set i none) (r.set i none) :=
  ⟨by simp [R.len], fun j d' hj => by
    by_cases e : i = j
    · subst e
      by_cases hi : i < r.length
      · rw [List.getElem?_set_self hi] at hj
        cases hj
      · rw [List.getElem?_eq_none (by simpa using hi)] at hj; cases hj
    · rw [List.getElem?_set_ne e] at hj ⊢
      exact R.at' j d' hj⟩
def wipeR (r : Rho) : List Nat → Rho
  | [] => r
  | v :: vs => (wipeR r vs).set v none
theorem RepS.wipe (R : RepS C g σ r) : ∀ vs : List Nat, RepS C g (L2.wipe σ vs) (wipeR r vs)
  | [] => R
  | _ :: vs => (R.wipe vs).unset2
/-- a new object frozen -/
def G.frz (g : G) (p : Addr) (o : HO) : G := { g with F := upd g.F p o }
theorem RepO.ne (R : RepO C g H O) {p : Addr} (hp : H p = none) {l : Nat} (h : l < g.n) : g.θ l ≠ p := fun e => R.trk h (e ▸ hp)
theorem RepO.Fnone (R : RepO C g H O) {p : Addr} (hp : H p = none) : g.F p = none := by
  cases e : g.F p with
  | none => rfl
  | some o => rw [R.F p o e] at hp; cases hp
theorem GLe.frz {p : Addr} {o : HO} (h : g.F p = none) : GLe g (g.frz p o) :=
  ⟨fun a u e => by
    show upd g.F p o a = some u
    rw [upd_ne (ne_of_none e h)]; exact e, fun _ _ => rfl, Nat.le_refl _⟩
theorem RepO.frz (R : RepO C g H O) {p : Addr} {o : HO} (hp : H p = none) : RepO C (g.frz p o) (upd H p o) O := by
  have le := GLe.frz (o := o) (R.Fnone hp)
  refine ⟨R.n, fun a u e => ?_, fun l c e => ?_, fun l hl => ?_, R.inj⟩
  · by_cases q : a = p
    · subst q
      have : upd g.F a o a = some u := e
      rw [upd_same] at this ⊢; exact this
    · have e' : upd g.F p o a = some u := e
      rw [upd_ne q] at e' ⊢
      exact R.F a u e'
  · have hl : l < g.n := by rw [R.n]; exact (List.getElem?_eq_some_iff.mp e).1
    refine ((R.cell l c e).mono le).heap ?_
    show H (g.θ l) = upd H p o (g.θ l)
    rw [upd_ne (R.ne hp hl)]
  · show upd g.F p o (g.θ l) = none
    rw [upd_ne (R.ne hp hl)]
    exact R.fresh l hl
theorem Ext.freeze (R : RepO C g H O) {p : Addr} {o : HO} (hp : H p = none) : Ext g H (g.frz p o) (upd H p o) :=
  ⟨GLe.frz (R.Fnone hp), fun a u e _ => by rw [upd_ne (ne_of_none e hp)]; exact e, fun l h h' => absurd h' (Nat.not_lt.mpr h), fun l hl => by
    rw [upd_ne (R.ne hp hl)]; exact R.trk hl, fun a u e => by
    by_cases q : a = p
    · subst q; exact .inr hp
    · have e' : upd g.F p o a = some u := e
      rw [upd_ne q] at e'
      exact .inl e'⟩
/-- a new cell -/
def G.add (g : G) (p : Addr) : G := { g with θ := fun l => if l = g.n then p else g.θ l, n := g.n + 1 }
theorem G.add_at {p : Addr} : (g.add p).θ g.n = p := if_pos rfl
theorem G.add_ne {p : Addr} {l : Nat} (h : l < g.n) : (g.add p).θ l = g.θ l := if_neg (Nat.ne_of_lt h)
theorem GLe.add {p : Addr} : GLe g (g.add p) := ⟨fun _ _ h => h, fun _ h => G.add_ne h, Nat.le_succ _⟩
/-- the heap H' is H with things at p and at new places of no cell -/
theorem RepO.add (R : RepO C g H O) {p : Addr} {c : Cell} (hp : H p = none) (hk : ∀ a o, H a = some o → H' a = some o) (new : CellOk C (g.add p) H' p c) : RepO C (g.add p) H' (O ++ [c]) := by
  refine ⟨by show g.n + 1 = _; simp [R.n], fun a u e => hk a u (R.F a u e), fun l c' e => ?_, fun l hl => ?_, fun i j hi hj e => ?_⟩
  · by_cases q : l < g.n
    · rw [List.getElem?_append_left (by rw [← R.n]; exact q)] at e
      rw [G.add_ne q]
      obtain ⟨o, ho, _⟩ := (R.cell l c' e).some'
      exact ((R.cell l c' e).mono GLe.add).heap (by rw [ho, hk _ _ ho])
    · have hl : l < (O ++ [c]).length := (List.getElem?_eq_some_iff.mp e).1
      simp at hl
      have el : l = g.n := by have := R.n; omega
      subst el
      rw [G.add_at]
      rw [R.n, List.getElem?_concat_length] at e
      cases e
      exact new
  · by_cases q : l < g.n
    · rw [G.add_ne q]; exact R.fresh l q
    · have hl : l < g.n + 1 := hl
      have el : l = g.n := by omega
      subst el
      rw [G.add_at]
      exact R.Fnone hp
  · have hi : i < g.n + 1 := hi
    have hj : j < g.n + 1 := hj
    by_cases qi : i < g.n
    · by_cases qj : j < g.n
      · rw [G.add_ne qi, G.add_ne qj] at e
        exact R.inj i j qi qj e
      · have ej : j = g.n := by omega
        subst ej
        rw [G.add_ne qi, G.add_at] at e
        exact absurd e (R.ne hp qi)
    · have ei : i = g.n := by omega
      subst ei
      by_cases qj : j < g.n
      · rw [G.add_ne qj, G.add_at] at e
        exact absurd e.symm (R.ne hp qj)
      · omega
theorem Ext.add (R : RepO C g H O) {p : Addr} (hp : H p = none) (hk : ∀ a o, H a = some o → H' a = some o) : Ext g H (g.add p) H' :=
  ⟨GLe.add, fun a u e _ => hk a u e, fun l h h' => by
    have h' : l < g.n + 1 := h'
    have el : l = g.n := by omega
    subst el
    rw [G.add_at]; exact hp, fun l hl => by
    cases e : H (g.θ l) with
    | none => exact absurd e (R.trk hl)
    | some o => rw [hk _ _ e]; exact (fun z => nomatch z), fun _ _ h => .inl h⟩
/-- a cell is written -/
theorem RepO.set (R : RepO C g H O) {l : Nat} {o : HO} {c : Cell} (hl : l < g.n) (new : CellOk C g (upd H (g.θ l) o) (g.θ l) c) : RepO C g (upd H (g.θ l) o) (O.set l c) := by
  refine ⟨by simp [R.n], fun a u e => ?_, fun k c' e => ?_, R.fresh, R.inj⟩
  · have : a ≠ g.θ l := fun z => by have q := R.fresh l hl; rw [← z, e] at q; cases q
    rw [upd_ne this]; exact R.F a u e
  · by_cases q : l = k
    · subst q
      rw [List.getElem?_set_self (by rw [← R.n]; exact hl)] at e
      cases e
      exact new
    · rw [List.getElem?_set_ne q] at e
      have hk : k < g.n := by rw [R.n]; exact (List.getElem?_eq_some_iff.mp e).1
      refine (R.cell k c' e).heap ?_
      rw [upd_ne fun z => q (R.inj _ _ hl hk z.symm)]
theorem Ext.set (R : RepO C g H O) {l : Nat} {o : HO} (hl : l < g.n) : Ext g H g (upd H (g.θ l) o) :=
  ⟨GLe.refl g, fun a u e n => by rw [upd_ne (n l hl).symm]; exact e, fun l h h' => absurd h' (Nat.not_lt.mpr h), fun k hk => by
    by_cases q : k = l
    · subst q; rw [upd_same]; exact fun z => nomatch z
    · rw [upd_ne fun z => q (R.inj _ _ hk hl z)]; exact R.trk hk, fun _ _ h => .inl h⟩
end
/-! ### what follows -/
/-- an error lies at the class's address, with its own dict -/
def ErOk (C : Ctx) (g : G) (H : Hp) (e : Er) (cv : Value) (dx : Option Addr) : Prop :=
  ∃ A, C.ec e.cls = some A ∧ cv = .ref A ∧ ((e.fs = [] ∧ dx = none) ∨ ∃ d vs, dx = some d ∧ e.fs ≠ [] ∧ H d = some (.xd vs) ∧ ShrF C g e.fs vs)
class Rel (α : Type) (β : outParam Type) where
  sh : Ctx → G → α → β → Prop
  mono : ∀ {C : Ctx} {g g' : G} {a : α} {b : β}, GLe g g' → sh C g a b → sh C g' a b
instance : Rel D V := ⟨fun C => Shr C.K, fun e h => Shr.mono e _ _ h⟩
instance : Rel (List D) (List V) := ⟨fun C => ShrL C.K, fun e h => ShrL.mono e _ _ h⟩
instance : Rel Bool Bool := ⟨fun _ _ a b => a = b, fun _ h => h⟩
section
variable {α β γ δ : Type} [Rel α β] [Rel γ δ]
def Post (C : Ctx) (W : WX) (σ : L2.St) (g : G) (H : Hp) (x : Res α) (Q : β → Hp → Prop) : Prop :=
  match x with
  | .ok d O => ∀ v g' H', Ext g H g' H' → RepO C g' H' O → Rel.sh C g' d v → Q v H'
  | .exc e O => ∀ cv dx g' H', Ext g H g' H' → RepO C g' H' O → ErOk C g' H' e cv dx → W cv dx σ H'
  | .bad => False
def PostS (C : Ctx) (W : WX) (g : G) (H : Hp) (x : SR) (E : Ends) : Prop :=
  match x with
  | .nx r O => ∀ σ' g' H', Ext g H g' H' → RepO C g' H' O → RepS C g' σ' r → E.nx σ' H'
  | .bk r O => ∀ σ' g' H', Ext g H g' H' → RepO C g' H' O → RepS C g' σ' r → E.bk σ' H'
  | .ct r O => ∀ σ' g' H', Ext g H g' H' → RepO C g' H' O → RepS C g' σ' r → E.ct σ' H'
  | .ret d O => ∀ v g' H', Ext g H g' H' → RepO C g' H' O → Shr C.K g' d v → E.rt v H'
  | .exc e r O => ∀ cv dx σ' g' H', Ext g H g' H' → RepO C g' H' O → RepS C g' σ' r → ErOk C g' H' e cv dx → W cv dx σ' H'
  | .bad => False
/-! ### binds -/
def Res.bind {α γ : Type} (x : Res α) (k : α → Sto → Res γ) : Res γ := match x with | .ok d O => k d O | .exc e O => .exc e O | .bad => .bad
def Res.bindS {α : Type} (x : Res α) (r : Rho) (k : α → Sto → SR) : SR := match x with | .ok d O => k d O | .exc e O => .exc e r O | .bad => .bad
def SR.bind (x : SR) (k : Rho → Sto → SR) : SR := match x with | .nx r O => k r O | .ret d O => .ret d O | .bk r O => .bk r O | .ct r O => .ct r O | .exc e r O => .exc e r O | .bad => .bad
/-! ### the judgements -/
/-- a reading asks no more than what the pure function gives -/
def Sat (C : Ctx) (W : WX) (te : L2.St → Hp → (β → Hp → Prop) → Prop) (f : Rho → Sto → Res α) : Prop :=
  ∀ g σ H r O, RepO C g H O → RepS C g σ r → ∀ Q, Post C W σ g H (f r O) Q → te σ H Q
def SatS (C : Ctx) (W : WX) (t : TS) (f : DS0) : Prop :=
  ∀ g σ H r O, RepO C g H O → RepS C g σ r → ∀ E, PostS C W g H (f r O) E → t E σ H
structure DE (C : Ctx) (X : Cx) (W : WX) (e : Expr) (f : DE0) : Prop where
  ex : ∃ te, PE X e te ∧ Sat C W te f
structure DT (C : Ctx) (X : Cx) (W : WX) (e : Expr) (f : Rho → Sto → Res Bool) : Prop where
  ex : ∃ te, PT X e te ∧ Sat C W te f
structure DA (C : Ctx) (X : Cx) (W : WX) (es : List Expr) (f : Rho → Sto → Res (List D)) : Prop where
  ex : ∃ te, PA X es te ∧ Sat C W te f
structure DS (C : Ctx) (X : Cx) (W : WX) (st : Stmt) (f : DS0) : Prop where
  ex : ∃ t, PS X st t ∧ SatS C W t f
structure DSs (C : Ctx) (X : Cx) (W : WX) (st : List Stmt) (f : DS0) : Prop where
  ex : ∃ t, PSs X st t ∧ SatS C W t f
section
variable {C : Ctx} {W : WX} {σ : L2.St} {g g' : G} {H H' : Hp} {r : Rho} {O : Sto}
theorem Post.shift {x : Res α} {Q : β → Hp → Prop} (e : Ext g H g' H') (h : Post C W σ g H x Q) : Post C W σ g' H' x Q := by
  cases x with
  | ok d2 O2 => exact fun v2 g2 H2 e2 => h v2 g2 H2 (e.trans e2)
  | exc er O2 => exact fun v2 d2 g2 H2 e2 => h v2 d2 g2 H2 (e.trans e2)
  | bad => exact h
theorem PostS.shift {x : SR} {E : Ends} (e : Ext g H g' H') (h : PostS C W g H x E) : PostS C W g' H' x E := by
  cases x with
  | nx d2 O2 => exact fun v2 g2 H2 e2 => h v2 g2 H2 (e.trans e2)
  | bk d2 O2 => exact fun v2 g2 H2 e2 => h v2 g2 H2 (e.trans e2)
  | ct d2 O2 => exact fun v2 g2 H2 e2 => h v2 g2 H2 (e.trans e2)
  | ret d2 O2 => exact fun v2 g2 H2 e2 => h v2 g2 H2 (e.trans e2)
  | exc er r O2 => exact fun v2 d2 s2 g2 H2 e2 => h v2 d2 s2 g2 H2 (e.trans e2)
  | bad => exact h
theorem Post.fin {a : α} {Q : β → Hp → Prop} {v : β} (R : RepO C g H O) (s : Rel.sh C g a v) (h : Post C W σ g H (.ok a O) Q) : Q v H := h v g H (Ext.refl R) R s
theorem Sat.seq {te : L2.St → Hp → (β → Hp → Prop) → Prop} {f : Rho → Sto → Res α} (p : Sat C W te f) (R : RepO C g H O) (S : RepS C g σ r) {k : α → Sto → Res γ} {Q : δ → Hp → Prop} {Q2 : β → Hp → Prop}
    (h : Post C W σ g H ((f r O).bind k) Q)
    (c : ∀ a O' v g' H', Ext g H g' H' → RepO C g' H' O' → RepS C g' σ r → Rel.sh C g' a v → Post C W σ g' H' (k a O') Q → Q2 v H') : te σ H Q2 := by
  refine p g σ H r O R S Q2 ?_
  cases q : f r O with
  | ok d O' =>
    rw [q] at h
    exact fun v g' H' e R' s => c d O' v g' H' e R' (S.mono e.le) s (Post.shift e h)
  | exc er O' => rw [q] at h; exact h
  | bad => rw [q] at h; exact h
theorem Sat.seqS {te : L2.St → Hp → (β → Hp → Prop) → Prop} {f : Rho → Sto → Res α} (p : Sat C W te f) (R : RepO C g H O) (S : RepS C g σ r) {k : α → Sto → SR} {E : Ends} {Q2 : β → Hp → Prop}
    (h : PostS C W g H ((f r O).bindS r k) E)
    (c : ∀ a O' v g' H', Ext g H g' H' → RepO C g' H' O' → RepS C g' σ r → Rel.sh C g' a v → PostS C W g' H' (k a O') E → Q2 v H') : te σ H Q2 := by
  refine p g σ H r O R S Q2 ?_
  cases q : f r O with
  | ok d O' =>
    rw [q] at h
    exact fun v g' H' e R' s => c d O' v g' H' e R' (S.mono e.le) s (PostS.shift e h)
  | exc er O' =>
    rw [q] at h
    exact fun cv dx g' H' e R' k => h cv dx σ g' H' e R' (S.mono e.le) k
  | bad => rw [q] at h; exact h
theorem SatS.seq {t : TS} {f : DS0} (p : SatS C W t f) (R : RepO C g H O) (S : RepS C g σ r) {k : Rho → Sto → SR} {E : Ends} {N : L2.St → Hp → Prop}
    (h : PostS C W g H ((f r O).bind k) E)
    (c : ∀ r' O' σ' g' H', Ext g H g' H' → RepO C g' H' O' → RepS C g' σ' r' → PostS C W g' H' (k r' O') E → N σ' H') : t { E with nx := N } σ H := by
  refine p g σ H r O R S _ ?_
  cases q : f r O with
  | nx r' O' => rw [q] at h; exact fun σ' g' H' e R' s => c r' O' σ' g' H' e R' s (PostS.shift e h)
  | ret d O' => rw [q] at h; exact h
  | bk d O' => rw [q] at h; exact h
  | ct d O' => rw [q] at h; exact h
  | exc e d O' => rw [q] at h; exact h
  | bad => rw [q] at h; exact h
end
end
end Dn
set_option Elab.async false
set_option linter.all false
set_option maxRecDepth 100000
set_option maxHeartbeats 2000000
namespace Dn
open PySem PySem.Spec PyProof.Rows L2
section
variable {C : Ctx} {X : Cx} {W : WX}
/-! ### names, constants -/
def varE (i : Nat) : DE0 := fun r O => match r[i]? with | some (some d) => .ok d O | _ => .bad
theorem d_var (i : Nat) {x : Str} {pos : Pos} (hN : X.N[i]? = some x := by rfl) (hv : Vis X.env.scope x := by first | exact Or.inl rfl | exact Or.inr (Or.inl rfl) | exact Or.inr (Or.inr rfl)) (hd : (x == ("__debug__" : Str)) = false := by decide)
    (hcd : (x == ("__classdict__" : Str)) = false := by decide) : DE C X W (.Name x pos) (varE i) := by
  refine ⟨tVar i, pe_var hN hv hd hcd, fun g σ H r O R S Q h => ?_⟩
  unfold varE at h
  split at h
  · rename_i d e
    obtain ⟨v, h1, h2⟩ := S.at' i d e
    exact ⟨v, h1, Post.fin R h2 h⟩
  · exact h.elim
def constE (d : D) : DE0 := fun _ O => .ok d O
theorem sat_c {d : D} {v : V} (h : ∀ g, Shr C.K g d v) : Sat C W (tC v) (constE d) := fun g σ H r O R S Q q => Post.fin R (h g) q
theorem d_int {i j pos} : DE C X W (.Constant (.int i) j pos) (constE (.int i)) := ⟨_, pe_int, sat_c fun _ => rfl⟩
theorem d_bl {b j pos} : DE C X W (.Constant (.bool b) j pos) (constE (.bl b)) := ⟨_, pe_bl, sat_c fun _ => rfl⟩
theorem d_non {j pos} : DE C X W (.Constant .none j pos) (constE .non) := ⟨_, pe_non, sat_c fun _ => rfl⟩
theorem d_str (l : List Nat) {x j pos} (hx : x = ⟨l.toArray⟩ := by first | rfl | decide +kernel) : DE C X W (.Constant (.str x) j pos) (constE (.str l)) := by
  subst hx
  exact ⟨_, pe_str, sat_c fun _ => rfl⟩
/-- a module's constant -/
theorem d_glob {x : Str} {d : D} {v : V} {u : Value} {pos : Pos} (hg : Gl X x) (hm : X.mg x = some u) (r : RelV v u) (s : ∀ g, Shr C.K g d v) (hd : (x == ("__debug__" : Str)) = false := by decide) : DE C X W (.Name x pos) (constE d) :=
  ⟨_, pe_glob hg hm r hd, sat_c s⟩
/-! ### two places, one place -/
abbrev O2 := D → D → Sto → ER
abbrev O1 := D → Sto → ER
/-- a two-place reading asks no more than the pure operation gives -/
def Sat2 (C : Ctx) (W : WX) (r : R2) (f : O2) : Prop := ∀ g H O, RepO C g H O → ∀ a b x y, Shr C.K g a x → Shr C.K g b y → ∀ σ Q, Post C W σ g H (f a b O) Q → r x y H Q
def Sat1 (C : Ctx) (W : WX) (r : V → Hp → VK → Prop) (f : O1) : Prop := ∀ g H O, RepO C g H O → ∀ a x, Shr C.K g a x → ∀ σ Q, Post C W σ g H (f a O) Q → r x H Q
def op2 (f : O2) (fa fb : DE0) : DE0 := fun r O => (fa r O).bind fun a O1 => (fb r O1).bind fun b O2 => f a b O2
def op1 (f : O1) (fa : DE0) : DE0 := fun r O => (fa r O).bind fun a O1 => f a O1
theorem sat_op {r : R2} {f : O2} {ta tb : TE} {fa fb : DE0} (hr : Sat2 C W r f) (ha : Sat C W ta fa) (hb : Sat C W tb fb) : Sat C W (tOp r ta tb) (op2 f fa fb) := fun g σ H ρ O R S Q h =>
  ha.seq R S h fun a O1 x g1 H1 e1 R1 S1 s1 h1 => hb.seq R1 S1 h1 fun b O2 y g2 H2 e2 R2 S2 s2 h2 => hr g2 H2 O2 R2 a b x y (s1.mono e2.le) s2 σ Q h2
theorem sat_un {r : V → Hp → VK → Prop} {f : O1} {ta : TE} {fa : DE0} (hr : Sat1 C W r f) (ha : Sat C W ta fa) : Sat C W (tUn r ta) (op1 f fa) := fun g σ H ρ O R S Q h =>
  ha.seq R S h fun a O1 x g1 H1 e1 R1 S1 s1 h1 => hr g1 H1 O1 R1 a x s1 σ Q h1
variable {a b c e : Expr} {fa fb fc fe : DE0} {pos : Pos}
theorem d_op {op : Operator} {r : R2} {f : O2} (ho : OpR X (binaryOp op) r) (hr : Sat2 C W r f) (ha : DE C X W a fa) (hb : DE C X W b fb) : DE C X W (.BinOp a op b pos) (op2 f fa fb) :=
  let ⟨_, pa, sa⟩ := ha.ex; let ⟨_, pb, sb⟩ := hb.ex; ⟨_, pe_op ho pa pb, sat_op hr sa sb⟩
theorem d_un {op : UnaryOp} {r : V → Hp → VK → Prop} {f : O1} (ho : UnR X (unaryOp op) r) (hr : Sat1 C W r f) (ha : DE C X W a fa) : DE C X W (.UnaryOp op a pos) (op1 f fa) :=
  let ⟨_, pa, sa⟩ := ha.ex; ⟨_, pe_un ho pa, sat_un hr sa⟩
theorem d_cmp {op : CmpOp} {r : R2} {f : O2} (ho : OpR X (compareOp op) r) (hr : Sat2 C W r f) (ha : DE C X W a fa) (hb : DE C X W b fb) (hm : behindInMarks op b = false := by first | exact nomark _ | rfl) : DE C X W (.Compare a [op] [b] pos) (op2 f fa fb) :=
  let ⟨_, pa, sa⟩ := ha.ex; let ⟨_, pb, sb⟩ := hb.ex; ⟨_, pe_cmpR ho pa pb hm, sat_op hr sa sb⟩
/-! ### tests -/
def asB (d : D) (O : Sto) : Res Bool := match d with | .bl b => .ok b O | _ => .bad
/-- a value's truth -/
def truD (d : D) (O : Sto) : Res Bool := match d with
  | .non => .ok false O
  | .bl b => .ok b O
  | .int i => .ok (i != 0) O
  | .str x => if x.length ≤ sizeLine then .ok (!x.isEmpty) O else .bad
  | .tup ds => .ok (!ds.isEmpty) O
  | .lst ds => .ok (!ds.isEmpty) O
  | .scr ds => .ok (!ds.isEmpty) O
  | .ob l => match O[l]? with | some (.lst ds) => .ok (!ds.isEmpty) O | some (.dic kvs) => .ok (!kvs.isEmpty) O | _ => .bad
theorem shrL_len {K : PySem.W.Frag} {g : G} : ∀ {ds : List D} {vs : List V}, ShrL K g ds vs → vs.length = ds.length
  | [], vs, h => by simp only [ShrL] at h; subst h; rfl
  | d :: ds, vs, h => by
    simp only [ShrL] at h
    obtain ⟨v, q, rfl, _, h3⟩ := h
    simp [shrL_len h3]
theorem shrL_emp {K : PySem.W.Frag} {g : G} {ds : List D} {vs : List V} (h : ShrL K g ds vs) : vs.isEmpty = ds.isEmpty := by
  have := shrL_len h
  cases ds <;> cases vs <;> simp_all
theorem shrK_emp {K : PySem.W.Frag} {g : G} {ds : List (DKey × D)} {vs : List (Key × V)} (h : ShrK K g ds vs) : vs.isEmpty = ds.isEmpty := by
  cases ds with
  | nil => simp only [ShrK] at h; subst h; rfl
  | cons p r => simp only [ShrK] at h; obtain ⟨v, q, rfl, _⟩ := h; rfl
theorem strlen (x : List Nat) : (⟨x.toArray⟩ : Str).length = x.length := by simp [Str.length]
theorem tru_of {g : G} {H : Hp} {O : Sto} (R : RepO C g H O) {d : D} {v : V} (s : Shr C.K g d v) {k : Bool} {O' : Sto} (h : truD d O = .ok k O') : O' = O ∧ TruV C.K v H k := by
  cases d with
  | non => simp only [truD, Res.ok.injEq] at h; obtain ⟨rfl, rfl⟩ := h; cases s; exact ⟨rfl, rfl⟩
  | bl b => simp only [truD, Res.ok.injEq] at h; obtain ⟨rfl, rfl⟩ := h; cases s; exact ⟨rfl, rfl⟩
  | int i => simp only [truD, Res.ok.injEq] at h; obtain ⟨rfl, rfl⟩ := h; cases s; exact ⟨rfl, rfl⟩
  | str x =>
    simp only [truD] at h
    split at h
    · rename_i hl
      simp only [Res.ok.injEq] at h
      obtain ⟨rfl, rfl⟩ := h
      cases s
      refine ⟨rfl, ?_, ?_⟩
      · rw [strlen]; exact hl
      · rw [strlen]; cases x <;> simp; omega
    · cases h
  | tup ds =>
    simp only [truD, Res.ok.injEq] at h; obtain ⟨rfl, rfl⟩ := h
    simp only [Shr] at s
    obtain ⟨a, vs, rfl, h2, h3⟩ := s
    exact ⟨rfl, .inr (.inl ⟨vs, ex_t R.F h2, by rw [shrL_emp h3]⟩)⟩
  | lst ds =>
    simp only [truD, Res.ok.injEq] at h; obtain ⟨rfl, rfl⟩ := h
    simp only [Shr] at s
    obtain ⟨a, vs, rfl, h2, h3⟩ := s
    exact ⟨rfl, .inl ⟨vs, SqL.of (R.F _ _ h2), by rw [shrL_emp h3]⟩⟩
  | scr ds =>
    simp only [truD, Res.ok.injEq] at h; obtain ⟨rfl, rfl⟩ := h
    simp only [Shr] at s
    obtain ⟨a, vs, rfl, h2, h3⟩ := s
    exact ⟨rfl, .inl ⟨vs, ex_l R.F h2, by rw [shrL_emp h3]⟩⟩
  | ob l =>
    simp only [truD] at h
    simp only [Shr] at s
    obtain ⟨rfl, hl⟩ := s
    split at h
    · rename_i ds e
      simp only [Res.ok.injEq] at h; obtain ⟨rfl, rfl⟩ := h
      obtain ⟨vs, h1, h2⟩ := R.cell l _ e
      exact ⟨rfl, .inl ⟨vs, SqL.of h1, by rw [shrL_emp h2]⟩⟩
    · rename_i ds e
      simp only [Res.ok.injEq] at h; obtain ⟨rfl, rfl⟩ := h
      obtain ⟨vs, h1, h2⟩ := R.cell l _ e
      exact ⟨rfl, .inr (.inr ⟨vs, h1, by rw [shrK_emp h2]⟩)⟩
    · cases h
theorem truD_ne (d : D) (O : Sto) (e : Er) (O' : Sto) : truD d O ≠ .exc e O' := by
  unfold truD
  split <;> (try split) <;> simp
/-- by the value's truth -/
def truT (f : DE0) : Rho → Sto → Res Bool := fun r O => (f r O).bind truD
theorem sat_tru {ta : TE} (sa : Sat C W ta fa) {T : PySem.W.Frag} (hT : T = C.K) : Sat C W (fun σ H Q => ta σ H fun x H' => ∃ k, TruV T x H' k ∧ Q k H') (truT fa) := fun g σ H r O R S Q h =>
  sa.seq R S h fun a O1 x g1 H1 e1 R1 S1 s1 h1 => by
    subst hT
    cases q : truD a O1 with
    | ok k O2 =>
      obtain ⟨rfl, t⟩ := tru_of R1 s1 q
      rw [q] at h1
      exact ⟨k, t, Post.fin R1 rfl h1⟩
    | exc e O2 => exact absurd q (truD_ne _ _ _ _)
    | bad => rw [q] at h1; exact h1.elim
theorem t_tru (hK : X.K = C.K) (h : DE C X W a fa) (he : ∀ whole, isTrue a X.env whole = (do let v ← whole; standAt a.pos; holding [v] (truthy v)) := by intro _; rfl) : DT C X W a (truT fa) :=
  let ⟨_, pa, sa⟩ := h.ex; ⟨_, pt_truth pa he, sat_tru sa hK⟩
/-- a comparison's -/
def cmpT (f : O2) (fa fb : DE0) : Rho → Sto → Res Bool := fun r O => (op2 f fa fb r O).bind asB
theorem sat_asB {ta : TE} (sa : Sat C W ta fa) : Sat C W (fun σ H Q => ta σ H fun x H' => ∃ k, x = .bl k ∧ Q k H') (fun r O => (fa r O).bind asB) := fun g σ H r O R S Q h =>
  sa.seq R S h fun d O1 x g1 H1 e1 R1 S1 s1 h1 => by
    cases d with
    | bl k => exact ⟨k, s1, Post.fin R1 rfl h1⟩
    | _ => exact h1.elim
theorem t_cmp {op : CmpOp} {r : R2} {f : O2} (ho : OpR X (compareOp op) r) (hr : Sat2 C W r f) (ha : DE C X W a fa) (hb : DE C X W b fb) (hm : behindInMarks op b = false := by first | exact nomark _ | rfl) : DT C X W (.Compare a [op] [b] pos) (cmpT f fa fb) :=
  let ⟨_, pa, sa⟩ := ha.ex; let ⟨_, pb, sb⟩ := hb.ex; ⟨_, pt_cmpR ho pa pb hm, sat_asB (sat_op hr sa sb)⟩
/-- a op b op' c -/
def chainE (f f' : O2) (fa fb fc : DE0) : DE0 := fun r O => (fa r O).bind fun a O1 => (fb r O1).bind fun b O2 => (f a b O2).bind fun z O3 => (asB z O3).bind fun k O4 => if k then (fc r O4).bind fun c O5 => f' b c O5 else .ok (.bl false) O4
def chainT (f f' : O2) (fa fb fc : DE0) : Rho → Sto → Res Bool := fun r O => (chainE f f' fa fb fc r O).bind asB
theorem sat_chain {q q' : R2} {f f' : O2} {ta tb tc : TE} (hr : Sat2 C W q f) (hr' : Sat2 C W q' f') (ha : Sat C W ta fa) (hb : Sat C W tb fb) (hc : Sat C W tc fc) :
    Sat C W (tChain q q' ta tb tc) (chainE f f' fa fb fc) := fun g σ H r O R S Q h => by
  refine ha.seq R S h fun a O1 x g1 H1 e1 R1 S1 s1 h1 => ?_
  refine hb.seq R1 S1 h1 fun b O2 y g2 H2 e2 R2 S2 s2 h2 => ?_
  refine hr g2 H2 O2 R2 a b x y (s1.mono e2.le) s2 σ _ ?_
  cases qq : f a b O2 with
  | ok z O3 =>
    rw [qq] at h2
    refine fun v g3 H3 e3 R3 s3 => ?_
    cases z with
    | bl k =>
      refine ⟨k, s3, ?_⟩
      have h3 := Post.shift e3 h2
      cases k with
      | true =>
        rw [if_pos rfl]
        exact Sat.seq hc R3 (S2.mono e3.le) h3 fun c O5 z g5 H5 e5 R5 S5 s5 h5 => hr' g5 H5 O5 R5 b c y z (Shr.mono (e3.le.trans e5.le) _ _ s2) s5 σ Q h5
      | false =>
        rw [if_neg Bool.false_ne_true]
        exact Post.fin R3 rfl h3
    | _ => exact h2.elim
  | exc e O3 => rw [qq] at h2; exact h2
  | bad => rw [qq] at h2; exact h2
theorem d_chain {op op' : CmpOp} {q q' : R2} {f f' : O2} (ho : OpR X (compareOp op) q) (ho' : OpR X (compareOp op') q') (hr : Sat2 C W q f) (hr' : Sat2 C W q' f') (ha : DE C X W a fa) (hb : DE C X W b fb) (hc : DE C X W c fc)
    (hm : lastMarks [op, op'] [b, c] = false := by with_unfolding_all rfl) : DE C X W (.Compare a [op, op'] [b, c] pos) (chainE f f' fa fb fc) :=
  let ⟨_, pa, sa⟩ := ha.ex; let ⟨_, pb, sb⟩ := hb.ex; let ⟨_, pc, sc⟩ := hc.ex; ⟨_, pe_chain ho ho' pa pb pc hm, sat_chain hr hr' sa sb sc⟩
theorem t_chain {op op' : CmpOp} {q q' : R2} {f f' : O2} (ho : OpR X (compareOp op) q) (ho' : OpR X (compareOp op') q') (hr : Sat2 C W q f) (hr' : Sat2 C W q' f') (ha : DE C X W a fa) (hb : DE C X W b fb) (hc : DE C X W c fc)
    (hm : lastMarks [op, op'] [b, c] = false := by with_unfolding_all rfl) : DT C X W (.Compare a [op, op'] [b, c] pos) (chainT f f' fa fb fc) :=
  let ⟨_, pa, sa⟩ := ha.ex; let ⟨_, pb, sb⟩ := hb.ex; let ⟨_, pc, sc⟩ := hc.ex; ⟨_, pt_chain ho ho' pa pb pc hm, sat_asB (sat_chain hr hr' sa sb sc)⟩
/-! ### and, or, not -/
def andT (f g : Rho → Sto → Res Bool) : Rho → Sto → Res Bool := fun r O => (f r O).bind fun k O1 => if k then g r O1 else .ok false O1
def orT (f g : Rho → Sto → Res Bool) : Rho → Sto → Res Bool := fun r O => (f r O).bind fun k O1 => if k then .ok true O1 else g r O1
def notT (f : Rho → Sto → Res Bool) : Rho → Sto → Res Bool := fun r O => (f r O).bind fun k O1 => .ok (!k) O1
/-- a test whatever its whole is -/
structure DW (C : Ctx) (X : Cx) (W : WX) (e : Expr) (f : Rho → Sto → Res Bool) : Prop where
  ex : ∃ te, PW X e te ∧ Sat C W te f
variable {ff gg : Rho → Sto → Res Bool} {rest : List Expr}
theorem DW.t (h : DW C X W e ff) : DT C X W e ff := let ⟨_, p, s⟩ := h.ex; ⟨_, p.pt, s⟩
theorem w_and1 (h : DT C X W a ff) : DW C X W (.BoolOp .And [a] pos) ff := let ⟨_, p, s⟩ := h.ex; ⟨_, pw_and1 p, s⟩
theorem w_or1 (h : DT C X W a ff) : DW C X W (.BoolOp .Or [a] pos) ff := let ⟨_, p, s⟩ := h.ex; ⟨_, pw_or1 p, s⟩
theorem w_and (ha : DT C X W a ff) (hb : DW C X W (.BoolOp .And (b :: rest) pos) gg) : DW C X W (.BoolOp .And (a :: b :: rest) pos) (andT ff gg) :=
  let ⟨_, pa, sa⟩ := ha.ex; let ⟨_, pb, sb⟩ := hb.ex; ⟨_, pw_and pa pb, fun g σ H r O R S Q h => sa.seq R S h fun k O1 k' g1 H1 e1 R1 S1 s1 h1 => by
    cases s1
    cases k with
    | true => rw [if_pos rfl]; exact sb g1 σ H1 r O1 R1 S1 Q h1
    | false => rw [if_neg Bool.false_ne_true]; exact Post.fin R1 rfl h1⟩
theorem w_or (ha : DT C X W a ff) (hb : DW C X W (.BoolOp .Or (b :: rest) pos) gg) : DW C X W (.BoolOp .Or (a :: b :: rest) pos) (orT ff gg) :=
  let ⟨_, pa, sa⟩ := ha.ex; let ⟨_, pb, sb⟩ := hb.ex; ⟨_, pw_or pa pb, fun g σ H r O R S Q h => sa.seq R S h fun k O1 k' g1 H1 e1 R1 S1 s1 h1 => by
    cases s1
    cases k with
    | true => rw [if_pos rfl]; exact Post.fin R1 rfl h1
    | false => rw [if_neg Bool.false_ne_true]; exact sb g1 σ H1 r O1 R1 S1 Q h1⟩
theorem t_not (ha : DT C X W a ff) : DT C X W (.UnaryOp .Not a pos) (notT ff) :=
  let ⟨_, pa, sa⟩ := ha.ex; ⟨_, pt_not pa, fun g σ H r O R S Q h => sa.seq R S h fun k O1 k' g1 H1 e1 R1 S1 s1 h1 => by
    cases s1
    exact Post.fin R1 rfl h1⟩
/-- .. as values, by truth -/
def andE (f g : DE0) : DE0 := fun r O => (f r O).bind fun d O1 => (truD d O1).bind fun k O2 => if k then g r O2 else .ok d O2
def orE (f g : DE0) : DE0 := fun r O => (f r O).bind fun d O1 => (truD d O1).bind fun k O2 => if k then .ok d O2 else g r O2
def notE (f : DE0) : DE0 := fun r O => (f r O).bind fun d O1 => (truD d O1).bind fun k O2 => .ok (.bl (!k)) O2
theorem d_one {op} (h : DE C X W a fa) : DE C X W (.BoolOp op [a] pos) fa := let ⟨_, p, s⟩ := h.ex; ⟨_, pe_one p, s⟩
theorem tru_post {γ δ : Type} [Rel γ δ] {g : G} {H : Hp} {O : Sto} {σ : L2.St} (R : RepO C g H O) {d : D} {v : V} (s : Shr C.K g d v) {k : Bool → Sto → Res γ} {Q : δ → Hp → Prop} (h : Post C W σ g H ((truD d O).bind k) Q) :
    ∃ b, TruV C.K v H b ∧ Post C W σ g H (k b O) Q := by
  cases q : truD d O with
  | ok b O2 =>
    obtain ⟨rfl, t⟩ := tru_of R s q
    rw [q] at h
    exact ⟨b, t, h⟩
  | exc e O2 => exact absurd q (truD_ne _ _ _ _)
  | bad => rw [q] at h; exact h.elim
theorem d_and (hK : X.K = C.K) (ha : DE C X W a fa) (hb : DE C X W (.BoolOp .And (b :: rest) pos) fb) : DE C X W (.BoolOp .And (a :: b :: rest) pos) (andE fa fb) :=
  let ⟨_, pa, sa⟩ := ha.ex; let ⟨_, pb, sb⟩ := hb.ex; ⟨_, pe_andT pa pb, fun g σ H r O R S Q h => sa.seq R S h fun d O1 v g1 H1 e1 R1 S1 s1 h1 => by
    obtain ⟨k, t, h2⟩ := tru_post R1 s1 h1
    refine ⟨k, hK ▸ t, ?_⟩
    cases k with
    | true => rw [if_pos rfl]; exact sb g1 σ H1 r O1 R1 S1 Q h2
    | false => rw [if_neg Bool.false_ne_true]; exact Post.fin R1 s1 h2⟩
theorem d_or (hK : X.K = C.K) (ha : DE C X W a fa) (hb : DE C X W (.BoolOp .Or (b :: rest) pos) fb) : DE C X W (.BoolOp .Or (a :: b :: rest) pos) (orE fa fb) :=
  let ⟨_, pa, sa⟩ := ha.ex; let ⟨_, pb, sb⟩ := hb.ex; ⟨_, pe_orT pa pb, fun g σ H r O R S Q h => sa.seq R S h fun d O1 v g1 H1 e1 R1 S1 s1 h1 => by
    obtain ⟨k, t, h2⟩ := tru_post R1 s1 h1
    refine ⟨k, hK ▸ t, ?_⟩
    cases k with
    | true => rw [if_pos rfl]; exact Post.fin R1 s1 h2
    | false => rw [if_neg Bool.false_ne_true]; exact sb g1 σ H1 r O1 R1 S1 Q h2⟩
theorem d_not (hK : X.K = C.K) (ha : DE C X W a fa) : DE C X W (.UnaryOp .Not a pos) (notE fa) :=
  let ⟨_, pa, sa⟩ := ha.ex; ⟨_, pe_notT pa, fun g σ H r O R S Q h => sa.seq R S h fun d O1 v g1 H1 e1 R1 S1 s1 h1 => by
    obtain ⟨k, t, h2⟩ := tru_post R1 s1 h1
    exact ⟨k, hK ▸ t, Post.fin R1 rfl h2⟩⟩
def ifE (c : Rho → Sto → Res Bool) (f g : DE0) : DE0 := fun r O => (c r O).bind fun k O1 => if k then f r O1 else g r O1
theorem d_ifExp (hc : DT C X W c ff) (ha : DE C X W a fa) (hb : DE C X W b fb) : DE C X W (.IfExp c a b pos) (ifE ff fa fb) :=
  let ⟨_, pc, sc⟩ := hc.ex; let ⟨_, pa, sa⟩ := ha.ex; let ⟨_, pb, sb⟩ := hb.ex; ⟨_, pe_ifExp pc pa pb, fun g σ H r O R S Q h => sc.seq R S h fun k O1 k' g1 H1 e1 R1 S1 s1 h1 => by
    cases s1
    cases k with
    | true => rw [if_pos rfl]; exact sa g1 σ H1 r O1 R1 S1 Q h1
    | false => rw [if_neg Bool.false_ne_true]; exact sb g1 σ H1 r O1 R1 S1 Q h1⟩
/-! ### arguments, displays -/
def nilA : Rho → Sto → Res (List D) := fun _ O => .ok [] O
def consA (f : DE0) (g : Rho → Sto → Res (List D)) : Rho → Sto → Res (List D) := fun r O => (f r O).bind fun d O1 => (g r O1).bind fun ds O2 => .ok (d :: ds) O2
variable {es : List Expr} {fas : Rho → Sto → Res (List D)}
theorem a_nil : DA C X W [] nilA := ⟨_, pa_nil, fun g σ H r O R S Q h => Post.fin R (by show ShrL _ _ [] []; simp [ShrL]) h⟩
theorem a_cons (ha : DE C X W e fe) (hr : DA C X W es fas) (hs : starEach (e :: es) X.env = (false, eval e X.env) :: starEach es X.env := by rfl) : DA C X W (e :: es) (consA fe fas) :=
  let ⟨_, pa, sa⟩ := ha.ex; let ⟨_, pb, sb⟩ := hr.ex; ⟨_, pa_cons pa pb hs, fun g σ H r O R S Q h => sa.seq R S h fun d O1 v g1 H1 e1 R1 S1 s1 h1 =>
    sb.seq R1 S1 h1 fun ds O2 vs g2 H2 e2 R2 S2 s2 h2 => Post.fin R2 (by
      show ShrL _ _ (d :: ds) (v :: vs)
      simp only [ShrL]
      exact ⟨v, vs, rfl, s1.mono e2.le, s2⟩) h2⟩
/-- a new list: frozen, or a cell -/
def mkL (m : Bool) (ds : List D) (O : Sto) : ER := if m then .ok (.ob O.length) (O ++ [.lst ds]) else .ok (.lst ds) O
theorem new_tup {g : G} {H : Hp} {O : Sto} {σ : L2.St} {ds : List D} {vs : List V} {Q : VK} (R : RepO C g H O) (s : ShrL C.K g ds vs) (h : Post C W σ g H (.ok (D.tup ds) O) Q) {p : Addr} (hp : H p = none) : Q (.ref p) (upd H p (.tup vs)) := by
  refine h _ (g.frz p (.tup vs)) _ (Ext.freeze R hp) (R.frz hp) ?_
  show Shr _ _ (.tup ds) _
  simp only [Shr]
  exact ⟨p, vs, rfl, SqT.of upd_same, ShrL.mono (GLe.frz (R.Fnone hp)) _ _ s⟩
theorem new_lst {m : Bool} {g : G} {H : Hp} {O : Sto} {σ : L2.St} {ds : List D} {vs : List V} {Q : VK} (R : RepO C g H O) (s : ShrL C.K g ds vs) (h : Post C W σ g H (mkL m ds O) Q) {p : Addr} (hp : H p = none) : Q (.ref p) (upd H p (.lst vs)) := by
  cases m with
  | false =>
    refine h _ (g.frz p (.lst vs)) _ (Ext.freeze R hp) (R.frz hp) ?_
    show Shr _ _ (.lst ds) _
    simp only [Shr]
    exact ⟨p, vs, rfl, upd_same, ShrL.mono (GLe.frz (R.Fnone hp)) _ _ s⟩
  | true =>
    have hk : ∀ a o, H a = some o → upd H p (.lst vs) a = some o := fun a o e => by rw [upd_ne (ne_of_none e hp)]; exact e
    refine h _ (g.add p) _ (Ext.add R hp hk) (R.add hp hk ⟨vs, upd_same, ShrL.mono GLe.add _ _ s⟩) ?_
    show Shr _ _ (.ob O.length) _
    simp only [Shr]
    rw [← R.n, G.add_at]
    exact ⟨rfl, Nat.lt_succ_self _⟩
def tupE (f : Rho → Sto → Res (List D)) : DE0 := fun r O => (f r O).bind fun ds O1 => if ds.length ≤ sizeLine then .ok (.tup ds) O1 else .bad
def lstE (m : Bool) (f : Rho → Sto → Res (List D)) : DE0 := fun r O => (f r O).bind fun ds O1 => if ds.length ≤ sizeLine then mkL m ds O1 else .bad
theorem d_tup {x1} (h : DA C X W es fas) : DE C X W (.Tuple es x1 pos) (tupE fas) :=
  let ⟨_, pa, sa⟩ := h.ex; ⟨_, pe_tup pa, fun g σ H r O R S Q h => sa.seq R S h fun ds O1 vs g1 H1 e1 R1 S1 s1 h1 => by
    split at h1
    · rename_i hl
      exact ⟨by rw [shrL_len s1]; exact hl, fun p hp => new_tup R1 s1 h1 hp⟩
    · exact h1.elim⟩
theorem d_lst (m : Bool) (h : DA C X W es fas) : DE C X W (.List es pos) (lstE m fas) :=
  let ⟨_, pa, sa⟩ := h.ex; ⟨_, pe_lst pa, fun g σ H r O R S Q h => sa.seq R S h fun ds O1 vs g1 H1 e1 R1 S1 s1 h1 => by
    split at h1
    · rename_i hl
      exact ⟨by rw [shrL_len s1]; exact hl, fun p hp => new_lst R1 s1 h1 hp⟩
    · exact h1.elim⟩
end
end Dn
set_option Elab.async false
set_option linter.all false
set_option maxRecDepth 100000
set_option maxHeartbeats 2000000
namespace Dn
open PySem PySem.Spec PyProof.Rows L2
section
variable {C : Ctx} {X : Cx} {W : WX}
/-! ### reading lists and tuples -/
/-- a list proper: frozen or a cell -/
def listS (d : D) (O : Sto) : Option (List D) := match d with
  | .lst ds => some ds
  | .ob l => match O[l]? with | some (.lst ds) => some ds | _ => none
  | _ => none
/-- any list that is read -/
def listR (d : D) (O : Sto) : Option (List D) := match d with
  | .scr ds => some ds
  | d => listS d O
def seqR (d : D) (O : Sto) : Option (List D) := match d with
  | .tup ds => some ds
  | d => listR d O
section
variable {g : G} {H : Hp} {O : Sto} {d : D} {v : V} {ds : List D}
theorem listS_of (R : RepO C g H O) (s : Shr C.K g d v) (h : listS d O = some ds) : ∃ a vs, v = .ref a ∧ H a = some (.lst vs) ∧ ShrL C.K g ds vs := by
  unfold listS at h
  split at h
  · cases h
    simp only [Shr] at s
    obtain ⟨a, vs, h1, h2, h3⟩ := s
    exact ⟨a, vs, h1, R.F _ _ h2, h3⟩
  · simp only [Shr] at s
    split at h
    · rename_i e
      cases h
      obtain ⟨vs, h1, h2⟩ := R.cell _ _ e
      exact ⟨_, vs, s.1, h1, h2⟩
    · cases h
  · cases h
theorem listR_of (R : RepO C g H O) (s : Shr C.K g d v) (h : listR d O = some ds) : ∃ a vs, v = .ref a ∧ SqL C.K H a vs ∧ ShrL C.K g ds vs := by
  unfold listR at h
  split at h
  · cases h
    simp only [Shr] at s
    obtain ⟨a, vs, h1, h2, h3⟩ := s
    exact ⟨a, vs, h1, ex_l R.F h2, h3⟩
  · obtain ⟨a, vs, h1, h2, h3⟩ := listS_of R s h
    exact ⟨a, vs, h1, SqL.of h2, h3⟩
theorem seqR_of (R : RepO C g H O) (s : Shr C.K g d v) (h : seqR d O = some ds) : ∃ a vs, v = .ref a ∧ (SqL C.K H a vs ∨ SqT C.K H a vs) ∧ ShrL C.K g ds vs := by
  unfold seqR at h
  split at h
  · cases h
    simp only [Shr] at s
    obtain ⟨a, vs, h1, h2, h3⟩ := s
    exact ⟨a, vs, h1, .inr (ex_t R.F h2), h3⟩
  · obtain ⟨a, vs, h1, h2, h3⟩ := listR_of R s h
    exact ⟨a, vs, h1, .inl h2, h3⟩
end
theorem shrL_append {K : PySem.W.Frag} {g : G} : ∀ {xs ys : List D} {vs ws : List V}, ShrL K g xs vs → ShrL K g ys ws → ShrL K g (xs ++ ys) (vs ++ ws)
  | [], ys, vs, ws, h, k => by simp only [ShrL] at h; subst h; exact k
  | x :: xs, ys, vs, ws, h, k => by
    simp only [ShrL] at h
    obtain ⟨v, r, rfl, h2, h3⟩ := h
    simp only [List.cons_append, ShrL]
    exact ⟨v, r ++ ws, rfl, h2, shrL_append h3 k⟩
theorem shrL_get {K : PySem.W.Frag} {g : G} : ∀ {xs : List D} {vs : List V} {i : Nat} {d : D}, ShrL K g xs vs → xs[i]? = some d → ∃ v, vs[i]? = some v ∧ Shr K g d v
  | [], vs, i, d, h, e => by simp at e
  | x :: xs, vs, 0, d, h, e => by
    simp only [ShrL] at h
    obtain ⟨v, r, rfl, h2, h3⟩ := h
    simp at e; subst e
    exact ⟨v, rfl, h2⟩
  | x :: xs, vs, i + 1, d, h, e => by
    simp only [ShrL] at h
    obtain ⟨v, r, rfl, h2, h3⟩ := h
    obtain ⟨w, q1, q2⟩ := shrL_get (i := i) h3 (by simpa using e)
    exact ⟨w, by simpa using q1, q2⟩
theorem shrL_drop {K : PySem.W.Frag} {g : G} : ∀ {xs : List D} {vs : List V} (n : Nat), ShrL K g xs vs → ShrL K g (xs.drop n) (vs.drop n)
  | xs, vs, 0, h => h
  | [], vs, n + 1, h => by simp only [ShrL] at h; subst h; simp [ShrL]
  | x :: xs, vs, n + 1, h => by
    simp only [ShrL] at h
    obtain ⟨v, r, rfl, h2, h3⟩ := h
    exact shrL_drop n h3
theorem shrL_take {K : PySem.W.Frag} {g : G} : ∀ {xs : List D} {vs : List V} (n : Nat), ShrL K g xs vs → ShrL K g (xs.take n) (vs.take n)
  | xs, vs, 0, h => by simp [ShrL]
  | [], vs, n + 1, h => by simp only [ShrL] at h; subst h; simp [ShrL]
  | x :: xs, vs, n + 1, h => by
    simp only [ShrL] at h
    obtain ⟨v, r, rfl, h2, h3⟩ := h
    simp only [List.take_succ_cons, ShrL]
    exact ⟨v, r.take n, rfl, h2, shrL_take n h3⟩
theorem shrL_set {K : PySem.W.Frag} {g : G} {d : D} {v : V} (s : Shr K g d v) : ∀ {xs : List D} {vs : List V} (n : Nat), ShrL K g xs vs → ShrL K g (xs.set n d) (vs.set n v)
  | [], vs, n, h => by simp only [ShrL] at h; subst h; simp [ShrL]
  | x :: xs, vs, 0, h => by
    simp only [ShrL] at h
    obtain ⟨w, r, rfl, h2, h3⟩ := h
    simp only [List.set_cons_zero, ShrL]
    exact ⟨v, r, rfl, s, h3⟩
  | x :: xs, vs, n + 1, h => by
    simp only [ShrL] at h
    obtain ⟨w, r, rfl, h2, h3⟩ := h
    simp only [List.set_cons_succ, ShrL]
    exact ⟨w, r.set n v, rfl, h2, shrL_set s n h3⟩
theorem shrL_ints {K : PySem.W.Frag} {g : G} : ∀ (ns : List Int), ShrL K g (ns.map D.int) (ns.map V.int)
  | [] => by simp [ShrL]
  | n :: ns => by
    simp only [List.map_cons, ShrL]
    exact ⟨_, _, rfl, rfl, shrL_ints ns⟩
theorem shrL_mem {K : PySem.W.Frag} {g : G} {xs : List D} {vs : List V} (h : ShrL K g xs vs) {P : D → Prop} {Q : V → Prop} (c : ∀ d v, d ∈ xs → Shr K g d v → P d → Q v) (a : ∀ d ∈ xs, P d) : ∀ v ∈ vs, Q v := by
  induction xs generalizing vs with
  | nil => simp only [ShrL] at h; subst h; intro v hv; cases hv
  | cons x xs ih =>
    simp only [ShrL] at h
    obtain ⟨w, r, rfl, h2, h3⟩ := h
    intro v hv
    rcases List.mem_cons.mp hv with rfl | hv
    · exact c x _ List.mem_cons_self h2 (a x List.mem_cons_self)
    · exact ih h3 (fun d v m => c d v (List.mem_cons_of_mem _ m)) (fun d m => a d (List.mem_cons_of_mem _ m)) v hv
theorem str_app (x y : List Nat) : (⟨x.toArray⟩ : Str) ++ (⟨y.toArray⟩ : Str) = ⟨(x ++ y).toArray⟩ := by
  apply TL.ext_tl
  rw [TL.tl_append]
theorem PE.or {e : Expr} {t t' : TE} (h : PE X e t) (h' : PE X e t') : PE X e (fun σ H Q => t σ H Q ∨ t' σ H Q) :=
  ⟨fun pins s σ H Q I q => q.elim (h.run pins s σ H Q I) (h'.run pins s σ H Q I)⟩
/-! ### + -/
def addD (m : Bool) : O2 := fun a b O => match a, b with
  | .int i, .int j => .ok (.int (i + j)) O
  | .str x, .str y => if x.length + y.length ≤ sizeLine then .ok (.str (x ++ y)) O else .bad
  | .tup xs, .tup ys => if xs.length + ys.length ≤ sizeLine then .ok (.tup (xs ++ ys)) O else .bad
  | a, b => match listS a O, listS b O with
    | some xs, some ys => if xs.length + ys.length ≤ sizeLine then mkL m (xs ++ ys) O else .bad
    | _, _ => .bad
def rAddD (K : PySem.W.Frag) : R2 := fun x y H Q => (rI0 (fun i j => .int (i + j))) x y H Q ∨ (∃ i j, x = .str i ∧ y = .str j ∧ i.length + j.length ≤ sizeLine ∧ Q (.str (i ++ j)) H) ∨ rCatA K x y H Q ∨ rCat x y H Q
theorem op_addD : OpR X (binaryOp .Add) (rAddD X.K) := op_add.or (op_add_str.or (op_catA.or op_cat))
theorem s_add (m : Bool) : Sat2 C W (rAddD C.K) (addD m) := by
  intro g H O R a b x y sx sy σ Q h
  unfold addD at h
  split at h
  · cases sx; cases sy
    exact .inl ⟨_, _, rfl, rfl, Post.fin R rfl h⟩
  · cases sx; cases sy
    split at h
    · rename_i hl
      refine .inr (.inl ⟨_, _, rfl, rfl, by rw [strlen, strlen]; exact hl, ?_⟩)
      refine Post.fin (v := V.str _) R ?_ h
      show V.str _ = sV _
      rw [str_app]; rfl
    · exact h.elim
  · rename_i xs ys
    split at h
    · rename_i hl
      simp only [Shr] at sx sy
      obtain ⟨a, vs, rfl, a2, a3⟩ := sx
      obtain ⟨b, ws, rfl, b2, b3⟩ := sy
      have e1 := shrL_len a3
      have e2 := shrL_len b3
      refine .inr (.inr (.inl ⟨a, b, vs, ws, rfl, rfl, ex_t R.F a2, ex_t R.F b2, by omega, fun z => ?_, fun z1 z2 => ?_, fun z1 z2 p hp => ?_⟩))
      · subst z
        have : xs = [] := List.eq_nil_of_length_eq_zero (by simpa using e1.symm)
        subst this
        refine Post.fin (v := V.ref b) R ?_ h
        show Shr _ _ (.tup ys) _
        simp only [Shr]
        exact ⟨b, ws, rfl, b2, b3⟩
      · subst z2
        have : ys = [] := List.eq_nil_of_length_eq_zero (by simpa using e2.symm)
        subst this
        rw [List.append_nil] at h
        refine Post.fin (v := V.ref a) R ?_ h
        show Shr _ _ (.tup xs) _
        simp only [Shr]
        exact ⟨a, vs, rfl, a2, a3⟩
      · exact new_tup R (shrL_append a3 b3) h hp
    · exact h.elim
  · split at h
    · rename_i xs ys h1 h2
      split at h
      · rename_i hl
        obtain ⟨a, vs, rfl, a2, a3⟩ := listS_of R sx h1
        obtain ⟨b, ws, rfl, b2, b3⟩ := listS_of R sy h2
        have e1 := shrL_len a3
        have e2 := shrL_len b3
        exact .inr (.inr (.inr ⟨a, b, vs, ws, rfl, rfl, a2, b2, by omega, fun p hp => new_lst R (shrL_append a3 b3) h hp⟩))
      · exact h.elim
    · exact h.elim
/-! ### the other operators on ints -/
def subD : O2 := fun a b O => match a, b with | .int i, .int j => .ok (.int (i - j)) O | _, _ => .bad
def modD : O2 := fun a b O => match a, b with | .int i, .int j => if 0 < j then .ok (.int (i % j)) O else .bad | _, _ => .bad
def fdivD : O2 := fun a b O => match a, b with | .int i, .int j => if 0 < j ∧ j < 1073741824 then .ok (.int (i / j)) O else .bad | _, _ => .bad
def negD : O1 := fun a O => match a with | .int i => .ok (.int (-i)) O | _ => .bad
theorem s_sub : Sat2 C W (rI0 fun i j => .int (i - j)) subD := by
  intro g H O R a b x y sx sy σ Q h
  unfold subD at h
  split at h
  · cases sx; cases sy; exact ⟨_, _, rfl, rfl, Post.fin R rfl h⟩
  · exact h.elim
theorem s_mod : Sat2 C W (rI (fun _ j => 0 < j) fun i j => .int (i % j)) modD := by
  intro g H O R a b x y sx sy σ Q h
  unfold modD at h
  split at h
  · cases sx; cases sy
    split at h
    · rename_i hj; exact ⟨_, _, rfl, rfl, hj, Post.fin R rfl h⟩
    · exact h.elim
  · exact h.elim
theorem s_fdiv : Sat2 C W (rI CDiv fun i j => .int (i / j)) fdivD := by
  intro g H O R a b x y sx sy σ Q h
  unfold fdivD at h
  split at h
  · cases sx; cases sy
    split at h
    · rename_i hj; exact ⟨_, _, rfl, rfl, hj, Post.fin R rfl h⟩
    · exact h.elim
  · exact h.elim
theorem s_neg : Sat1 C W (rU fun i => .int (-i)) negD := by
  intro g H O R a x sx σ Q h
  unfold negD at h
  split at h
  · cases sx; exact ⟨_, rfl, Post.fin R rfl h⟩
  · exact h.elim
/-- ints -/
def cmpI (p : Int → Int → Bool) : O2 := fun a b O => match a, b with | .int i, .int j => .ok (.bl (p i j)) O | _, _ => .bad
def ltD : O2 := cmpI fun i j => decide (i < j)
def leD : O2 := cmpI fun i j => decide (i ≤ j)
def gtD : O2 := cmpI fun i j => decide (j < i)
def geD : O2 := cmpI fun i j => decide (j ≤ i)
theorem s_cmpI (p : Int → Int → Bool) : Sat2 C W (rI0 fun i j => .bl (p i j)) (cmpI p) := by
  intro g H O R a b x y sx sy σ Q h
  unfold cmpI at h
  split at h
  · cases sx; cases sy; exact ⟨_, _, rfl, rfl, Post.fin R rfl h⟩
  · exact h.elim
theorem s_lt : Sat2 C W (rI0 fun i j => .bl (decide (i < j))) ltD := s_cmpI _
theorem s_le : Sat2 C W (rI0 fun i j => .bl (decide (i ≤ j))) leD := s_cmpI _
theorem s_gt : Sat2 C W (rI0 fun i j => .bl (decide (j < i))) gtD := s_cmpI _
theorem s_ge : Sat2 C W (rI0 fun i j => .bl (decide (j ≤ i))) geD := s_cmpI _
/-! ### is None -/
def isND (d : D) : Bool := match d with | .non => true | _ => false
def isNoneD : O2 := fun a b O => match b with | .non => .ok (.bl (isND a)) O | _ => .bad
def notNoneD : O2 := fun a b O => match b with | .non => .ok (.bl (!isND a)) O | _ => .bad
theorem isN_of {K : PySem.W.Frag} {g : G} {d : D} {v : V} (s : Shr K g d v) : decide (v = .non) = isND d := by
  cases d <;> simp only [Shr] at s <;> first
    | (subst s; rfl)
    | (obtain ⟨a, vs, rfl, _⟩ := s; rfl)
    | (obtain ⟨rfl, _⟩ := s; rfl)
theorem s_isN : Sat2 C W (fun x y H Q => y = .non ∧ Q (.bl (decide (x = .non))) H) isNoneD := by
  intro g H O R a b x y sx sy σ Q h
  unfold isNoneD at h
  split at h
  · cases sy; exact ⟨rfl, Post.fin R (by rw [isN_of sx]; rfl) h⟩
  · exact h.elim
theorem s_notN : Sat2 C W (fun x y H Q => y = .non ∧ Q (.bl (!decide (x = .non))) H) notNoneD := by
  intro g H O R a b x y sx sy σ Q h
  unfold notNoneD at h
  split at h
  · cases sy; exact ⟨rfl, Post.fin R (by rw [isN_of sx]; rfl) h⟩
  · exact h.elim
/-! ### == of data -/
mutual
/-- no thing within -/
def pure' : D → Bool
  | .ob _ => false
  | .tup ds => pureL ds
  | .lst ds => pureL ds
  | .scr _ => false
  | _ => true
def pureL : List D → Bool
  | [] => true
  | d :: ds => pure' d && pureL ds
end
mutual
def dep : D → Nat
  | .tup ds => depL ds + 1
  | .lst ds => depL ds + 1
  | .scr ds => depL ds + 1
  | _ => 0
def depL : List D → Nat
  | [] => 0
  | d :: ds => max (dep d) (depL ds)
end
mutual
def toPy : D → PyData
  | .non => .none
  | .bl b => .bool b
  | .int i => .int i
  | .str x => .str ⟨x.toArray⟩
  | .tup ds => .tuple (toPyL ds)
  | .lst ds => .list (toPyL ds)
  | .scr ds => .list (toPyL ds)
  | .ob _ => .none
def toPyL : List D → List PyData
  | [] => []
  | d :: ds => toPy d :: toPyL ds
end
mutual
def eqv : D → D → Bool
  | .non, .non => true
  | .bl a, .bl b => a == b
  | .bl a, .int j => (if a then 1 else 0) == j
  | .int i, .bl b => i == (if b then 1 else 0)
  | .int i, .int j => i == j
  | .str x, .str y => x == y
  | .tup xs, .tup ys => eqvL xs ys
  | .lst xs, .lst ys => eqvL xs ys
  | _, _ => false
def eqvL : List D → List D → Bool
  | [], [] => true
  | x :: xs, y :: ys => eqv x y && eqvL xs ys
  | _, _ => false
end
theorem beq_str (x y : List Nat) : ((⟨x.toArray⟩ : Str) == ⟨y.toArray⟩) = (x == y) := by
  by_cases e : x = y
  · subst e; simp
  · have : ¬ (⟨x.toArray⟩ : Str) = ⟨y.toArray⟩ := fun z => e (by injection z with z; simpa using z)
    rw [beq_eq_false_iff_ne.mpr this, beq_eq_false_iff_ne.mpr e]
mutual
theorem eqv_py : ∀ (a b : D), pure' a = true → pure' b = true → PyData.eqv (toPy a) (toPy b) = eqv a b
  | .non, b, _, _ => by cases b <;> simp_all [toPy, PyData.eqv, eqv, pure']
  | .bl _, b, _, _ => by cases b <;> simp_all [toPy, PyData.eqv, eqv, pure']
  | .int _, b, _, _ => by cases b <;> simp_all [toPy, PyData.eqv, eqv, pure']
  | .str x, b, _, _ => by
    cases b <;> simp_all [toPy, PyData.eqv, eqv, pure']
    rename_i y; exact beq_str x y
  | .tup xs, b, h, k => by
    cases b with
    | tup ys =>
      simp only [toPy, PyData.eqv, eqv]
      simp only [pure'] at h k
      exact eqvL_py xs ys h k
    | _ => simp_all [toPy, PyData.eqv, eqv, pure']
  | .lst xs, b, h, k => by
    cases b with
    | lst ys =>
      simp only [toPy, PyData.eqv, eqv]
      simp only [pure'] at h k
      exact eqvL_py xs ys h k
    | _ => simp_all [toPy, PyData.eqv, eqv, pure']
  | .scr _, _, h, _ => by simp [pure'] at h
  | .ob _, _, h, _ => by simp [pure'] at h
theorem eqvL_py : ∀ (a b : List D), pureL a = true → pureL b = true → PyData.eqvAll (toPyL a) (toPyL b) = eqvL a b
  | [], [], _, _ => by simp [toPyL, PyData.eqvAll, eqvL]
  | [], _ :: _, _, _ => by simp [toPyL, PyData.eqvAll, eqvL]
  | _ :: _, [], _, _ => by simp [toPyL, PyData.eqvAll, eqvL]
  | x :: xs, y :: ys, h, k => by
    simp only [pureL, Bool.and_eq_true] at h k
    simp only [toPyL, PyData.eqvAll, eqvL]
    rw [eqv_py x y h.1 k.1, eqvL_py xs ys h.2 k.2]
end
mutual
theorem dep_py : ∀ d : D, (toPy d).depth = dep d
  | .non => by simp [toPy, PyData.depth, dep]
  | .bl _ => by simp [toPy, PyData.depth, dep]
  | .int _ => by simp [toPy, PyData.depth, dep]
  | .str _ => by simp [toPy, PyData.depth, dep]
  | .ob _ => by simp [toPy, PyData.depth, dep]
  | .tup ds => by simp [toPy, PyData.depth, dep, depL_py ds]
  | .lst ds => by simp [toPy, PyData.depth, dep, depL_py ds]
  | .scr ds => by simp [toPy, PyData.depth, dep, depL_py ds]
theorem depL_py : ∀ ds : List D, PyData.depthAll (toPyL ds) = depL ds
  | [] => by simp [toPyL, PyData.depthAll, depL]
  | d :: ds => by simp [toPyL, PyData.depthAll, depL, dep_py d, depL_py ds]
end
mutual
theorem dp_of {K : PySem.W.Frag} {g : G} {H : Hp} (F : ∀ a o, g.F a = some o → H a = some o) : ∀ (d : D) (v : V), pure' d = true → Shr K g d v → Dp K H v (toPy d)
  | .non, _, _, s => by cases s; exact .non
  | .bl _, _, _, s => by cases s; exact .bl _
  | .int _, _, _, s => by cases s; exact .int _
  | .str _, _, _, s => by cases s; exact .str _
  | .tup ds, v, h, s => by
    simp only [Shr] at s
    obtain ⟨a, vs, rfl, h2, h3⟩ := s
    simp only [toPy]
    exact .tup (ex_t F h2) (dpL_of F ds vs (by simpa [pure'] using h) h3)
  | .lst ds, v, h, s => by
    simp only [Shr] at s
    obtain ⟨a, vs, rfl, h2, h3⟩ := s
    simp only [toPy]
    exact .lst (SqL.of (F _ _ h2)) (dpL_of F ds vs (by simpa [pure'] using h) h3)
  | .scr _, _, h, _ => by simp [pure'] at h
  | .ob _, _, h, _ => by simp [pure'] at h
theorem dpL_of {K : PySem.W.Frag} {g : G} {H : Hp} (F : ∀ a o, g.F a = some o → H a = some o) : ∀ (ds : List D) (vs : List V), pureL ds = true → ShrL K g ds vs → DpAll K H vs (toPyL ds)
  | [], _, _, s => by simp only [ShrL] at s; subst s; simp only [toPyL]; exact .nil
  | d :: ds, _, h, s => by
    simp only [ShrL] at s
    obtain ⟨v, r, rfl, h2, h3⟩ := s
    simp only [pureL, Bool.and_eq_true] at h
    simp only [toPyL]
    exact .cons (dp_of F d v h.1 h2) (dpL_of F ds r h.2 h3)
end
def okD (d : D) : Bool := pure' d && ((toPy d).canLay0 && decide (dep d ≤ 64))
/-- one cell of a list read as a list -/
def unob (d : D) (O : Sto) : D := match d with
  | .ob l => match O[l]? with | some (.lst ds) => .lst ds | _ => d
  | d => d
/-- pairs of scalars that need no look -/
def quick : D → D → Bool
  | .non, .non => true | .non, .int _ => true | .int _, .non => true | .non, .bl _ => true | .bl _, .non => true | .non, .str _ => true | .str _, .non => true
  | .int _, .int _ => true | .bl _, .bl _ => true | .str _, .str _ => true
  | .int _, .str _ => true | .str _, .int _ => true | .bl _, .str _ => true | .str _, .bl _ => true
  | _, _ => false
def eqD : O2 := fun a b O => if quick a b then .ok (.bl (eqv a b)) O else if okD (unob a O) && okD (unob b O) then .ok (.bl (eqv (unob a O) (unob b O))) O else .bad
def neD : O2 := fun a b O => if quick a b then .ok (.bl (!eqv a b)) O else if okD (unob a O) && okD (unob b O) then .ok (.bl (!eqv (unob a O) (unob b O))) O else .bad
theorem quick_of {K : PySem.W.Frag} {g : G} {a b : D} {x y : V} (sx : Shr K g a x) (sy : Shr K g b y) (h : quick a b = true) : scal x y = true ∧ decide (x = y) = eqv a b := by
  cases a <;> cases b <;> first
    | (exact absurd (show false = true from h) Bool.false_ne_true)
    | skip
  all_goals (simp only [Shr] at sx sy; subst sx; subst sy)
  all_goals first
    | (refine ⟨rfl, ?_⟩; simp [eqv, sV]; done)
    | skip
  all_goals (refine ⟨rfl, ?_⟩; rw [Bool.eq_iff_iff]; simp [eqv, sV])
theorem shaped_py {d : D} (h : okD d = true) : SeqAt.shaped (toPy d) = true := by
  simp only [okD, Bool.and_eq_true, decide_eq_true_eq] at h
  unfold SeqAt.shaped
  simp [dep_py, h.2]
theorem dp_unob {g : G} {H : Hp} {O : Sto} (R : RepO C g H O) {d : D} {v : V} (s : Shr C.K g d v) (h : okD (unob d O) = true) : Dp C.K H v (toPy (unob d O)) := by
  have hp : pure' (unob d O) = true := by
    simp only [okD, Bool.and_eq_true] at h
    exact h.1
  cases d with
  | ob l =>
    unfold unob at hp ⊢
    simp only at hp ⊢
    split at hp
    · rename_i ds e
      obtain ⟨vs, h1, h2⟩ := R.cell l _ e
      simp only [Shr] at s
      obtain ⟨rfl, _⟩ := s
      simp only [e, toPy]
      exact .lst (SqL.of h1) (dpL_of R.F ds vs (by simpa [pure'] using hp) h2)
    · simp [pure'] at hp
  | _ => exact dp_of R.F _ _ hp s
def rEqA (K : PySem.W.Frag) : R2 := fun x y H Q => rEq x y H Q ∨ rEqD K x y H Q
def rNeA (K : PySem.W.Frag) : R2 := fun x y H Q => rNe x y H Q ∨ rNeD K x y H Q
theorem op_eqA (hu : X.A.units + 64 < cLine) : OpR X (compareOp .Eq) (rEqA X.K) := op_eq.or (op_eqD hu)
theorem op_neA (hu : X.A.units + 64 < cLine) : OpR X (compareOp .NotEq) (rNeA X.K) := op_ne.or (op_neD hu)
theorem s_eq : Sat2 C W (rEqA C.K) eqD := by
  intro g H O R a b x y sx sy σ Q h
  unfold eqD at h
  split at h
  · rename_i hq
    obtain ⟨h1, h2⟩ := quick_of sx sy hq
    exact .inl ⟨h1, Post.fin R (by rw [h2]; rfl) h⟩
  split at h
  · rename_i hc
    simp only [Bool.and_eq_true] at hc
    refine .inr ⟨_, _, dp_unob R sx hc.1, dp_unob R sy hc.2, shaped_py hc.1, shaped_py hc.2, ?_⟩
    have p1 := hc.1
    have p2 := hc.2
    simp only [okD, Bool.and_eq_true] at p1 p2
    rw [eqv_py _ _ p1.1 p2.1]
    exact Post.fin R rfl h
  · exact h.elim
theorem s_ne : Sat2 C W (rNeA C.K) neD := by
  intro g H O R a b x y sx sy σ Q h
  unfold neD at h
  split at h
  · rename_i hq
    obtain ⟨h1, h2⟩ := quick_of sx sy hq
    exact .inl ⟨h1, Post.fin R (by rw [h2]; rfl) h⟩
  split at h
  · rename_i hc
    simp only [Bool.and_eq_true] at hc
    refine .inr ⟨_, _, dp_unob R sx hc.1, dp_unob R sy hc.2, shaped_py hc.1, shaped_py hc.2, ?_⟩
    have p1 := hc.1
    have p2 := hc.2
    simp only [okD, Bool.and_eq_true] at p1 p2
    rw [eqv_py _ _ p1.1 p2.1]
    exact Post.fin R rfl h
  · exact h.elim
/-! ### keys of dicts -/
def keyD (d : D) : Option DKey := match d with | .int i => some (.inl i) | .str x => some (.inr x) | _ => none
def getK (kvs : List (DKey × D)) (k : DKey) : Option D := (kvs.find? fun p => decide (p.1 = k)).map (·.2)
def putD (kvs : List (DKey × D)) (k : DKey) (d : D) : List (DKey × D) := if kvs.any fun p => decide (p.1 = k) then kvs.map fun p => if p.1 = k then (p.1, d) else p else kvs ++ [(k, d)]
def delK (kvs : List (DKey × D)) (k : DKey) : List (DKey × D) := kvs.filter fun p => decide (p.1 ≠ k)
theorem kD_inj {a b : DKey} (h : kD a = kD b) : a = b := by
  cases a <;> cases b <;> simp_all [kD]
theorem kD_dec (a b : DKey) : decide (kD a = kD b) = decide (a = b) := by
  by_cases e : a = b
  · subst e; simp
  · have : ¬ kD a = kD b := fun z => e (kD_inj z)
    simp [e, this]
theorem keyD_of {K : PySem.W.Frag} {g : G} {d : D} {v : V} {k : DKey} (s : Shr K g d v) (h : keyD d = some k) : v = kV (kD k) := by
  unfold keyD at h
  split at h
  · cases h; cases s; rfl
  · cases h; cases s; rfl
  · cases h
theorem shrK_get {K : PySem.W.Frag} {g : G} {k : DKey} : ∀ {ds : List (DKey × D)} {vs : List (Key × V)}, ShrK K g ds vs →
    (∀ d, getK ds k = some d → ∃ v, valV vs (kD k) = some v ∧ Shr K g d v) ∧ (getK ds k = none → valV vs (kD k) = none)
  | [], vs, h => by
    simp only [ShrK] at h; subst h
    exact ⟨fun d e => by simp [getK] at e, fun _ => rfl⟩
  | p :: ds, vs, h => by
    simp only [ShrK] at h
    obtain ⟨v, r, rfl, h2, h3⟩ := h
    by_cases e : p.1 = k
    · refine ⟨fun d q => ?_, fun q => ?_⟩
      · simp [getK, List.find?_cons, e] at q
        subst q
        exact ⟨v, by rw [valV_pos (by rw [e])], h2⟩
      · simp [getK, List.find?_cons, e] at q
    · have ih := shrK_get (k := k) h3
      have e' : ¬ kD p.1 = kD k := fun z => e (kD_inj z)
      refine ⟨fun d q => ?_, fun q => ?_⟩
      · rw [valV_neg e']
        exact ih.1 d (by simpa [getK, List.find?_cons, e] using q)
      · rw [valV_neg e']
        exact ih.2 (by simpa [getK, List.find?_cons, e] using q)
theorem shrK_any {K : PySem.W.Frag} {g : G} {k : DKey} : ∀ {ds : List (DKey × D)} {vs : List (Key × V)}, ShrK K g ds vs → (vs.any fun p => decide (p.1 = kD k)) = ds.any fun p => decide (p.1 = k)
  | [], vs, h => by simp only [ShrK] at h; subst h; rfl
  | p :: ds, vs, h => by
    simp only [ShrK] at h
    obtain ⟨v, r, rfl, h2, h3⟩ := h
    simp only [List.any_cons, shrK_any h3, kD_dec]
theorem shrK_put {K : PySem.W.Frag} {g : G} {k : DKey} {d : D} {v : V} (s : Shr K g d v) {ds : List (DKey × D)} {vs : List (Key × V)} (h : ShrK K g ds vs) : ShrK K g (putD ds k d) (putK vs (kD k) v) := by
  unfold putD putK
  rw [shrK_any h]
  split
  · rename_i hno; clear hno
    induction ds generalizing vs with
    | nil => simp only [ShrK] at h; subst h; simp [ShrK]
    | cons p ds ih =>
      simp only [ShrK] at h
      obtain ⟨w, r, rfl, h2, h3⟩ := h
      simp only [List.map_cons]
      by_cases e : p.1 = k
      · rw [if_pos e, if_pos (show (kD p.1, w).1 = kD k from by rw [e])]
        simp only [ShrK]
        exact ⟨v, _, rfl, s, ih h3⟩
      · rw [if_neg e, if_neg (show ¬ (kD p.1, w).1 = kD k from fun z => e (kD_inj z))]
        simp only [ShrK]
        exact ⟨w, _, rfl, h2, ih h3⟩
  · rename_i hno; clear hno
    induction ds generalizing vs with
    | nil =>
      simp only [ShrK] at h; subst h
      simp only [List.nil_append, ShrK]
      exact ⟨v, [], rfl, s, rfl⟩
    | cons p ds ih =>
      simp only [ShrK] at h
      obtain ⟨w, r, rfl, h2, h3⟩ := h
      simp only [List.cons_append, ShrK]
      exact ⟨w, _, rfl, h2, ih h3⟩
theorem shrK_del {K : PySem.W.Frag} {g : G} {k : DKey} : ∀ {ds : List (DKey × D)} {vs : List (Key × V)}, ShrK K g ds vs → ShrK K g (delK ds k) (dropK vs (kD k))
  | [], vs, h => by simp only [ShrK] at h; subst h; simp [delK, dropK, ShrK]
  | p :: ds, vs, h => by
    simp only [ShrK] at h
    obtain ⟨w, r, rfl, h2, h3⟩ := h
    have ih := shrK_del (k := k) h3
    unfold delK dropK at ih ⊢
    by_cases e : p.1 = k
    · rw [List.filter_cons_of_neg (by simp [e]), List.filter_cons_of_neg (by simp [e])]
      exact ih
    · have e' : ¬ kD p.1 = kD k := fun z => e (kD_inj z)
      rw [List.filter_cons_of_pos (by simpa using e), List.filter_cons_of_pos (by simpa using e')]
      simp only [ShrK]
      exact ⟨w, _, rfl, h2, ih⟩
theorem shrK_len {K : PySem.W.Frag} {g : G} : ∀ {ds : List (DKey × D)} {vs : List (Key × V)}, ShrK K g ds vs → vs.length = ds.length
  | [], vs, h => by simp only [ShrK] at h; subst h; rfl
  | p :: ds, vs, h => by
    simp only [ShrK] at h
    obtain ⟨w, r, rfl, h2, h3⟩ := h
    simp [shrK_len h3]
def dicOf (d : D) (O : Sto) : Option (Nat × List (DKey × D)) := match d with
  | .ob l => match O[l]? with | some (.dic kvs) => some (l, kvs) | _ => none
  | _ => none
theorem dicOf_of {g : G} {H : Hp} {O : Sto} {d : D} {v : V} {l : Nat} {kvs : List (DKey × D)} (R : RepO C g H O) (s : Shr C.K g d v) (h : dicOf d O = some (l, kvs)) :
    v = .ref (g.θ l) ∧ l < g.n ∧ O[l]? = some (.dic kvs) ∧ ∃ vs, H (g.θ l) = some (.dK vs) ∧ ShrK C.K g kvs vs := by
  unfold dicOf at h
  split at h
  · split at h
    · rename_i e
      cases h
      simp only [Shr] at s
      exact ⟨s.1, s.2, e, R.cell _ _ e⟩
    · cases h
  · cases h
/-! ### in -/
def hasSub (x y : List Nat) : Bool := (List.range (y.length + 1 - x.length)).any fun i => (y.drop i).take x.length == x
def flatD : D → Bool
  | .non => true | .bl _ => true | .int _ => true | .str _ => true | _ => false
def inB (neg : Bool) : O2 := fun a b O => match a, b with
  | .str x, .str y => .ok (.bl (neg != (hasSub x y && decide (x.length ≤ y.length)))) O
  | a, b => match dicOf b O with
    | some (_, kvs) => match keyD a with | some k => .ok (.bl (neg != (getK kvs k).isSome)) O | none => .bad
    | none => match seqR b O with
      | some ds => if flatD a && ds.all flatD then .ok (.bl (neg != ds.any fun y => eqv y a)) O else .bad
      | none => .bad
end
end Dn
set_option Elab.async false
set_option linter.all false
set_option maxRecDepth 100000
set_option maxHeartbeats 2000000
namespace Dn
open PySem PySem.Spec PyProof.Rows L2
section
variable {C : Ctx} {X : Cx} {W : WX}
theorem tl_mk' (x : List Nat) : (⟨x.toArray⟩ : Str).cps.toList = x := rfl
theorem found_sub (x y : List Nat) : (!(Builtin.Str.occurrences ⟨y.toArray⟩ ⟨x.toArray⟩ 0 (⟨y.toArray⟩ : Str).length 1).isEmpty) = (hasSub x y && decide (x.length ≤ y.length)) := by
  rw [Bool.eq_iff_iff, StrLaws.found_iff]
  simp only [strlen, StrLaws.subAt_eq, tl_mk', hasSub, Bool.and_eq_true, List.any_eq_true, List.mem_range, decide_eq_true_eq]
  constructor
  · rintro ⟨i, h1, h2⟩
    exact ⟨⟨i, by omega, h2⟩, by omega⟩
  · rintro ⟨⟨i, h1, h2⟩, h3⟩
    exact ⟨i, by omega, h2⟩
def rInA (K : PySem.W.Frag) (neg : Bool) : R2 := fun x y H Q =>
  (∃ i j, x = .str i ∧ y = .str j ∧ Q (.bl (neg != (!(Builtin.Str.occurrences j i 0 j.length 1).isEmpty))) H) ∨ (∃ a o, y = .ref a ∧ DGet H a x o ∧ Q (.bl (neg != o.isSome)) H) ∨ rIn K neg x y H Q
theorem op_inA (hu : X.A.units + 1 < cLine) : OpR X (compareOp .In) (rInA X.K false) := by
  intro pins s σ H x y v u Q I rx ry h
  rcases h with ⟨i, j, h1, h2, h3⟩ | ⟨a, o, rfl, h2, h3⟩ | h
  · exact op_in_str pins s σ H x y v u Q I rx ry ⟨i, j, h1, h2, by simpa using h3⟩
  · cases ry
    exact d_in hu I h2 rx fun s3 I3 => ⟨.bl o.isSome, H, I3, rfl, by simpa using h3⟩
  · exact op_in_seq pins s σ H x y v u Q I rx ry h
theorem op_notInA (hu : X.A.units + 1 < cLine) : OpR X (compareOp .NotIn) (rInA X.K true) := by
  intro pins s σ H x y v u Q I rx ry h
  rcases h with ⟨i, j, h1, h2, h3⟩ | ⟨a, o, rfl, h2, h3⟩ | h
  · exact op_notin_str pins s σ H x y v u Q I rx ry ⟨i, j, h1, h2, by simpa using h3⟩
  · cases ry
    exact d_notIn hu I h2 rx fun s3 I3 => ⟨.bl (!o.isSome), H, I3, rfl, by simpa using h3⟩
  · exact op_notIn_seq pins s σ H x y v u Q I rx ry h
theorem flat_of {K : PySem.W.Frag} {g : G} {d : D} {v : V} (s : Shr K g d v) (h : flatD d = true) : flatV v = true := by
  cases d <;> simp_all [flatD, Shr, flatV, sV] <;> subst s <;> rfl
theorem eqv_flat {K : PySem.W.Frag} {g : G} {a b : D} {x y : V} (sx : Shr K g a x) (sy : Shr K g b y) (ha : flatD a = true) (hb : flatD b = true) : eqV x y = eqv a b := by
  cases a <;> simp [flatD] at ha <;> cases b <;> simp [flatD] at hb <;> simp only [Shr] at sx sy <;> subst sx <;> subst sy <;> first
    | rfl
    | (simp [eqV, eqv, sV, beq_str]; done)
    | (simp [eqV, eqv, sV]; exact beq_str _ _)
theorem any_flat {K : PySem.W.Frag} {g : G} {a : D} {x : V} (sx : Shr K g a x) (ha : flatD a = true) : ∀ {ds : List D} {vs : List V}, ShrL K g ds vs → ds.all flatD = true → vs.all flatV = true ∧ inV x vs = ds.any fun y => eqv y a
  | [], vs, h, _ => by simp only [ShrL] at h; subst h; exact ⟨rfl, rfl⟩
  | d :: ds, vs, h, k => by
    simp only [ShrL] at h
    obtain ⟨v, r, rfl, h2, h3⟩ := h
    simp only [List.all_cons, Bool.and_eq_true] at k
    obtain ⟨i1, i2⟩ := any_flat sx ha h3 k.2
    refine ⟨by simp [flat_of h2 k.1, i1], ?_⟩
    show (eqV v x || inV x r) = _
    rw [List.any_cons, i2, eqv_flat h2 sx k.1 ha]
theorem s_in (neg : Bool) : Sat2 C W (rInA C.K neg) (inB neg) := by
  intro g H O R a b x y sx sy σ Q h
  unfold inB at h
  split at h
  · cases sx; cases sy
    refine .inl ⟨_, _, rfl, rfl, ?_⟩
    rw [found_sub]
    exact Post.fin R rfl h
  · split at h
    · rename_i l kvs e
      obtain ⟨rfl, _, _, vs, h2, h3⟩ := dicOf_of R sy e
      split at h
      · rename_i k ek
        have := keyD_of sx ek
        subst this
        refine .inr (.inl ⟨_, _, rfl, DGet.k h2, ?_⟩)
        refine Post.fin R ?_ h
        have hk := shrK_get (k := k) h3
        cases q : getK kvs k with
        | none => rw [hk.2 q]; rfl
        | some d => obtain ⟨v, q1, _⟩ := hk.1 d q; rw [q1]; rfl
      · exact h.elim
    · split at h
      · rename_i ds e
        split at h
        · rename_i hf
          simp only [Bool.and_eq_true] at hf
          obtain ⟨p, vs, rfl, h2, h3⟩ := seqR_of R sy e
          obtain ⟨f1, f2⟩ := any_flat sx hf.1 h3 hf.2
          refine .inr (.inr ⟨p, vs, rfl, h2, flat_of sx hf.1, f1, ?_⟩)
          rw [f2]
          refine Post.fin R ?_ h
          cases neg
          · show V.bl _ = _; simp
          · show V.bl _ = _; simp
        · exact h.elim
      · exact h.elim
/-! ### subscripts -/
def ixNat (n : Nat) (i : Int) : Option Nat := ixN n i
def getI (ds : List D) (i : Int) : Option D := (ixN ds.length i).bind fun j => ds[j]?
def ixD : O2 := fun a b O => match a, b with
  | .str x, .int i => if x.length ≤ sizeLine then match (ixN x.length i).bind fun j => x[j]? with | some c => .ok (.str [c]) O | none => .bad else .bad
  | a, b => match dicOf a O with
    | some (_, kvs) => match keyD b with | some k => (match getK kvs k with | some d => .ok d O | none => .bad) | none => .bad
    | none => match seqR a O, b with
      | some ds, .int i => (match getI ds i with | some d => .ok d O | none => .bad)
      | _, _ => .bad
def rIxDic : R2 := fun x y H Q => ∃ a v, x = .ref a ∧ DGet H a y (some v) ∧ Q v H
theorem ix_dict (hu : X.A.units + 1 < cLine) : IxR X rIxDic := by
  intro value slice pins s σ H x y v u Q I rx ry h hs
  obtain ⟨a, z, rfl, g, q⟩ := h
  cases rx
  have hT := dict_typeIs I g
  unfold subscriptTail
  refine wpAny_bind ?_
  rw [getitemInPython_of_ne hT.not_modules]
  refine wpAny_bind (wpAny_specialOf hT PySem.F.slot_dict_getitem.lookup ?_)
  have fin : wpAny (model X.prog X.w) X.A (subscripted slice false (.ref a) u) (fun r s₃ => wpAny (model X.prog X.w) X.A (letTemporaryGo value (.ref a) r >>= fun _ => pure r) (EP X pins σ Q) X.xe s₃) X.xe s := by
    rw [hs]
    exact wpAny_operating (d_getItem hu I g ry fun w' s3 I3 rw' => wpAny_bind (wpAny_letTemporaryGo (wpAny_pure ⟨z, H, I3, rw', q⟩)))
  first
    | exact wpAny_pure (wpAny_bind fin)
    | exact wpAny_bind (wpAny_pure (wpAny_bind fin))
    | exact wpAny_bind fin
def rIxA (K : PySem.W.Frag) : R2 := fun x y H Q => rIx K x y H Q ∨ rIxDic x y H Q
theorem ix_all (hu : X.A.units + 1 < cLine) : IxR X (rIxA X.K) := ix_seq.or (ix_dict hu)
theorem s_ix : Sat2 C W (rIxA C.K) ixD := by
  intro g H O R a b x y sx sy σ Q h
  unfold ixD at h
  split at h
  · cases sx; cases sy
    split at h
    · rename_i hl
      split at h
      · rename_i c e
        refine .inl (.inr (.inr ⟨_, _, c, rfl, rfl, by rw [strlen]; exact hl, ?_, ?_⟩))
        · show (ixN (List.length _) _).bind _ = _
          exact e
        · exact Post.fin R rfl h
      · exact h.elim
    · exact h.elim
  · split at h
    · rename_i l kvs e
      obtain ⟨rfl, _, _, vs, h2, h3⟩ := dicOf_of R sx e
      split at h
      · rename_i k ek
        have := keyD_of sy ek
        subst this
        split at h
        · rename_i d ed
          obtain ⟨v, q1, q2⟩ := (shrK_get h3).1 d ed
          exact .inr ⟨_, v, rfl, by rw [← q1]; exact DGet.k h2, Post.fin R q2 h⟩
        · exact h.elim
      · exact h.elim
    · split at h
      · rename_i ds i e _
        split at h
        · rename_i d ed
          cases sy
          obtain ⟨p, vs, rfl, h2, h3⟩ := seqR_of R sx e
          have hlen := shrL_len h3
          obtain ⟨j, ej, ed⟩ : ∃ j, ixN ds.length i = some j ∧ ds[j]? = some d := by
            unfold getI at ed
            cases q : ixN ds.length i with
            | none => rw [q] at ed; cases ed
            | some j => rw [q] at ed; exact ⟨j, rfl, ed⟩
          obtain ⟨v, q1, q2⟩ := shrL_get h3 ed
          have hat : atI vs i = some v := by
            unfold atI
            rw [hlen, ej]
            exact q1
          rcases h2 with h2 | h2
          · exact .inl (.inl ⟨p, vs, i, v, rfl, rfl, h2, hat, Post.fin R q2 h⟩)
          · exact .inl (.inr (.inl ⟨p, vs, i, v, rfl, rfl, h2, hat, Post.fin R q2 h⟩))
        · exact h.elim
      · exact h.elim
variable {a b c e : Expr} {fa fb fc fe : DE0} {pos : Pos}
theorem d_ix (hK : X.K = C.K) (hu : X.A.units + 1 < cLine) (ha : DE C X W a fa) (hb : DE C X W b fb) (hs : PlainIx b := by exact fun _ _ => rfl) : DE C X W (.Subscript a b pos) (op2 ixD fa fb) :=
  let ⟨_, pa, sa⟩ := ha.ex; let ⟨_, pb, sb⟩ := hb.ex; ⟨_, pe_ix (ix_all hu) pa pb hs, sat_op (by rw [hK]; exact s_ix) sa sb⟩
/-! ### slices -/
instance : Rel (Option Int) (Option Int) := ⟨fun _ _ a b => a = b, fun _ h => h⟩
structure DO (C : Ctx) (X : Cx) (W : WX) (e : Option Expr) (f : Rho → Sto → Res (Option Int)) : Prop where
  ex : ∃ te, PO X e te ∧ Sat C W te f
def noP : Rho → Sto → Res (Option Int) := fun _ O => .ok none O
def asP (d : D) (O : Sto) : Res (Option Int) := match d with | .int i => .ok (some i) O | _ => .bad
def someP (f : DE0) : Rho → Sto → Res (Option Int) := fun r O => (f r O).bind asP
theorem o_none : DO C X W none noP := ⟨_, po_none, fun g σ H r O R S Q h => Post.fin R rfl h⟩
theorem o_some (h : DE C X W e fe) : DO C X W (some e) (someP fe) :=
  let ⟨_, p, s⟩ := h.ex; ⟨_, po_some p, fun g σ H r O R S Q h => s.seq R S h fun d O1 v g1 H1 e1 R1 S1 s1 h1 => by
    cases d with
    | int i => exact ⟨i, s1, Post.fin R1 rfl h1⟩
    | _ => exact h1.elim⟩
def cutD {α : Type} (xs : List α) (lo hi : Option Int) : List α := (xs.drop (HT.sIx xs.length 0 lo)).take (HT.sIx xs.length xs.length hi - HT.sIx xs.length 0 lo)
theorem shrL_cut {K : PySem.W.Frag} {g : G} {ds : List D} {vs : List V} (h : ShrL K g ds vs) (lo hi : Option Int) : ShrL K g (cutD ds lo hi) (cutV vs lo hi) := by
  unfold cutD cutV
  rw [shrL_len h]
  exact shrL_take _ (shrL_drop _ h)
def slD (m : Bool) (a : D) (lo hi : Option Int) (O : Sto) : ER := match a with
  | .str x => if x.length ≤ sizeLine then .ok (.str (cutD x lo hi)) O else .bad
  | .tup ds => .ok (.tup (cutD ds lo hi)) O
  | a => match listR a O with | some ds => mkL m (cutD ds lo hi) O | none => .bad
def slE (m : Bool) (f : DE0) (l h : Rho → Sto → Res (Option Int)) : DE0 := fun r O => (f r O).bind fun d O1 => (l r O1).bind fun lo O2 => (h r O2).bind fun hi O3 => slD m d lo hi O3
def rSlAll (K : PySem.W.Frag) : V → Option Int → Option Int → Hp → VK → Prop := fun x lo hi H Q => rSlL K x lo hi H Q ∨ rSlA K x lo hi H Q ∨ rSlS x lo hi H Q
theorem sl_all : SlR X (rSlAll X.K) := sl_list.or (sl_tupA.or sl_str)
theorem d_slice (m : Bool) (hK : X.K = C.K) {lo hi : Option Expr} {fl fh : Rho → Sto → Res (Option Int)} {p2 : Pos} (ha : DE C X W a fa) (hl : DO C X W lo fl) (hh : DO C X W hi fh) : DE C X W (.Subscript a (.Slice lo hi none p2) pos) (slE m fa fl fh) :=
  let ⟨_, pa, sa⟩ := ha.ex; let ⟨_, pl, sl⟩ := hl.ex; let ⟨_, ph, sh⟩ := hh.ex
  ⟨_, pe_slice sl_all pa pl ph, fun g σ H r O R S Q h => sa.seq R S h fun d O1 v g1 H1 e1 R1 S1 s1 h1 => sl.seq R1 S1 h1 fun lo O2 lo' g2 H2 e2 R2 S2 s2 h2 => sh.seq R2 S2 h2 fun hi O3 hi' g3 H3 e3 R3 S3 s3 h3 => by
    cases s2; cases s3
    have sd : Shr C.K g3 d v := Shr.mono (e2.le.trans e3.le) _ _ s1
    rw [hK]
    unfold slD at h3
    split at h3
    · cases sd
      split at h3
      · rename_i hl
        refine .inr (.inr ⟨_, rfl, by rw [strlen]; exact hl, ?_⟩)
        refine Post.fin (v := V.str _) R3 ?_ h3
        show V.str _ = sV _
        unfold cutS cutD
        rw [strlen]; rfl
      · exact h3.elim
    · rename_i ds
      simp only [Shr] at sd
      obtain ⟨p, vs, rfl, h4, h5⟩ := sd
      refine .inr (.inl ⟨p, vs, rfl, ex_t R3.F h4, fun z => ?_, fun z q hq => ?_⟩)
      · have e : cutD ds lo hi = ds := by
          unfold cutD
          rw [shrL_len h5] at z
          rw [z.1, z.2, List.drop_zero, Nat.sub_zero, List.take_length]
        rw [e] at h3
        refine Post.fin (v := V.ref p) R3 ?_ h3
        show Shr _ _ (.tup ds) _
        simp only [Shr]
        exact ⟨p, vs, rfl, h4, h5⟩
      · exact new_tup R3 (shrL_cut h5 lo hi) h3 hq
    · split at h3
      · rename_i ds e
        obtain ⟨p, vs, rfl, h4, h5⟩ := listR_of R3 sd e
        exact .inl ⟨p, vs, rfl, h4, fun q hq => new_lst R3 (shrL_cut h5 lo hi) h3 hq⟩
      · exact h3.elim⟩
/-! ### builtins by name, methods of builtin types -/
def SatC (C : Ctx) (W : WX) (r : List V → Hp → VK → Prop) (f : List D → Sto → ER) : Prop := ∀ g H O, RepO C g H O → ∀ ds vs, ShrL C.K g ds vs → ∀ σ Q, Post C W σ g H (f ds O) Q → r vs H Q
def callE (f : List D → Sto → ER) (fas : Rho → Sto → Res (List D)) : DE0 := fun r O => (fas r O).bind f
variable {x : Str} {p : Pos} {es : List Expr} {id T : String} {r : List V → Hp → VK → Prop} {fas : Rho → Sto → Res (List D)} {f : List D → Sto → ER}
theorem sat_call {t : TA} (hr : SatC C W r f) (sa : Sat C W t fas) : Sat C W (tCB r t) (callE f fas) := fun g σ H ρ O R S Q h =>
  sa.seq R S h fun ds O1 vs g1 H1 e1 R1 S1 s1 h1 => hr g1 H1 O1 R1 ds vs s1 σ Q h1
theorem d_callB (hc : CallR X (.builtin id) r) (hr : SatC C W r f) (hg : Gl X x) (hm : X.mg x = none) (hv : bootBuiltins x = some (.builtin id)) (ha : DA C X W (e :: es) fas) (hn : x ≠ "__name__" := by decide) (hdb : (x == ("__debug__" : Str)) = false := by decide)
    (he : starEach (e :: es) X.env = (false, eval e X.env) :: starEach es X.env := by rfl) (hpl : (backTo pos (starEach es X.env)).any (·.1) = false := by rfl) : DE C X W (.Call (.Name x p) (e :: es) [] pos) (callE f fas) :=
  let ⟨_, pa, sa⟩ := ha.ex; ⟨_, pe_callB hc hg hm hv pa hn hdb he hpl, sat_call hr sa⟩
theorem d_callTy (hc : CallR X (.type T) r) (hr : SatC C W r f) (hg : Gl X x) (hm : X.mg x = none) (hv : bootBuiltins x = some (.type T)) (ha : DA C X W (e :: es) fas) (hn : x ≠ "__name__" := by decide) (hdb : (x == ("__debug__" : Str)) = false := by decide)
    (he : starEach (e :: es) X.env = (false, eval e X.env) :: starEach es X.env := by rfl) (hpl : (backTo pos (starEach es X.env)).any (·.1) = false := by rfl) : DE C X W (.Call (.Name x p) (e :: es) [] pos) (callE f fas) :=
  let ⟨_, pa, sa⟩ := ha.ex; ⟨_, pe_callTy hc hg hm hv pa hn hdb he hpl, sat_call hr sa⟩
/-- len -/
def lenD (d : D) (O : Sto) : ER := match d with
  | .str x => if x.length ≤ sizeLine then .ok (.int x.length) O else .bad
  | d => match seqR d O with
    | some ds => .ok (.int ds.length) O
    | none => match dicOf d O with | some (_, kvs) => .ok (.int kvs.length) O | none => .bad
def lenF : List D → Sto → ER := fun ds O => match ds with | [d] => lenD d O | _ => .bad
theorem shrL_one {K : PySem.W.Frag} {g : G} {d : D} {vs : List V} (h : ShrL K g [d] vs) : ∃ v, vs = [v] ∧ Shr K g d v := by
  simp only [ShrL] at h
  obtain ⟨v, r, rfl, h2, rfl⟩ := h
  exact ⟨v, rfl, h2⟩
theorem shrL_two {K : PySem.W.Frag} {g : G} {d d' : D} {vs : List V} (h : ShrL K g [d, d'] vs) : ∃ v v', vs = [v, v'] ∧ Shr K g d v ∧ Shr K g d' v' := by
  simp only [ShrL] at h
  obtain ⟨v, r, rfl, h2, w, r', rfl, h3, rfl⟩ := h
  exact ⟨v, w, rfl, h2, h3⟩
def rLenA (K : PySem.W.Frag) : List V → Hp → VK → Prop := fun xs H Q => (∃ x n, xs = [x] ∧ LenV K x H n ∧ Q (.int n) H) ∨ ∃ d kvs, xs = [.ref d] ∧ H d = some (.dK kvs) ∧ Q (.int kvs.length) H
theorem call_lenDic : CallR X (.builtin "len") (fun xs H Q => ∃ d kvs, xs = [.ref d] ∧ H d = some (.dK kvs) ∧ Q (.int kvs.length) H) := by
  intro pins s σ H xs us Q I r h
  obtain ⟨d, kvs, rfl, hd, q⟩ := h
  obtain ⟨u, rfl, ru⟩ := vals1 r
  cases ru
  exact d_len I (.inl hd) fun t s' I' => ⟨.int kvs.length, H, I', ⟨_, rfl⟩, q⟩
theorem call_lenA : CallR X (.builtin "len") (rLenA X.K) := call_len.or call_lenDic
theorem s_len : SatC C W (rLenA C.K) lenF := by
  intro g H O R ds vs s σ Q h
  unfold lenF at h
  split at h
  · rename_i d
    obtain ⟨v, rfl, sd⟩ := shrL_one s
    unfold lenD at h
    split at h
    · cases sd
      split at h
      · rename_i hl
        refine .inl ⟨_, _, rfl, ⟨by rw [strlen]; exact hl, rfl⟩, ?_⟩
        rw [strlen]
        exact Post.fin R rfl h
      · exact h.elim
    · split at h
      · rename_i xs e
        obtain ⟨p, ws, rfl, h2, h3⟩ := seqR_of R sd e
        refine .inl ⟨_, ws.length, rfl, ?_, ?_⟩
        · rcases h2 with h2 | h2
          · exact .inl ⟨ws, h2, rfl⟩
          · exact .inr ⟨ws, h2, rfl⟩
        · rw [shrL_len h3]
          exact Post.fin R rfl h
      · split at h
        · rename_i l kvs e
          obtain ⟨rfl, _, _, ws, h2, h3⟩ := dicOf_of R sd e
          refine .inr ⟨_, ws, rfl, h2, ?_⟩
          rw [shrK_len h3]
          exact Post.fin R rfl h
        · exact h.elim
  · exact h.elim
/-- a method of a builtin type -/
def bmE (ty : D → Sto → Bool) (f : D → List D → Sto → ER) (fo : DE0) (fas : Rho → Sto → Res (List D)) : DE0 := fun r O => (fo r O).bind fun d O1 => if ty d O1 then (fas r O1).bind fun ds O2 => f d ds O2 else .bad
def SatM (C : Ctx) (W : WX) (r : V → List V → Hp → VK → Prop) (f : D → List D → Sto → ER) : Prop := ∀ g H O, RepO C g H O → ∀ d ds v vs, Shr C.K g d v → ShrL C.K g ds vs → ∀ σ Q, Post C W σ g H (f d ds O) Q → r v vs H Q
def SatT (C : Ctx) (T : String) (ty : D → Sto → Bool) : Prop := ∀ g H O, RepO C g H O → ∀ d v, Shr C.K g d v → ty d O = true → tyV C.K T v H
def tyStr (d : D) (_ : Sto) : Bool := match d with | .str _ => true | _ => false
def tyLst (d : D) (O : Sto) : Bool := (listR d O).isSome
def tyDic (d : D) (O : Sto) : Bool := (dicOf d O).isSome
theorem ty_str : SatT C "str" tyStr := by
  intro g H O R d v s h
  cases d <;> simp [tyStr] at h
  cases s
  show "str" = "str"
  rfl
theorem ty_lst : SatT C "list" tyLst := by
  intro g H O R d v s h
  unfold tyLst at h
  cases e : listR d O with
  | none => rw [e] at h; cases h
  | some ds =>
    obtain ⟨p, vs, rfl, h2, _⟩ := listR_of R s e
    exact .inl ⟨rfl, vs, h2⟩
theorem ty_dic : SatT C "dict" tyDic := by
  intro g H O R d v s h
  unfold tyDic at h
  cases e : dicOf d O with
  | none => rw [e] at h; cases h
  | some ds =>
    obtain ⟨l, kvs⟩ := ds
    obtain ⟨rfl, _, _, vs, h2, _⟩ := dicOf_of R s e
    exact .inr (.inr (.inl ⟨rfl, .inl ⟨vs, h2⟩⟩))
variable {o : Expr} {fo : DE0} {name : Str} {apos cpos : Pos} {rm : V → List V → Hp → VK → Prop} {fm : D → List D → Sto → ER} {ty : D → Sto → Bool}
theorem d_bm (hK : X.K = C.K) (pa : PlainAttrs T) (slot : Slot T name id) (hty : typeOf (.builtin id) = pure (.type "method_descriptor")) (hm : MtR X id rm) (hr : SatM C W rm fm) (ht : SatT C T ty) (ho : DE C X W o fo) (ha : DA C X W (e :: es) fas)
    (hbase : attributeBase o name X.env (eval o X.env) = eval o X.env := by rfl)
    (hfew : ((backTo cpos (starEach (e :: es) X.env)).all (fun x => !x.1) && (backToKw cpos (keywordEach [] X.env)).all (fun x => x.1.isSome)
      && decide ((e :: es).length + ([] : List Keyword).length + (if ([] : List Keyword).isEmpty then 0 else 1) < 30)) = true := by rfl)
    (hline : (apos.endLine == cpos.line) = true := by rfl) (hs : starEach (e :: es) X.env = (false, eval e X.env) :: starEach es X.env := by rfl) (hplain : (backTo cpos (starEach es X.env)).any (·.1) = false := by rfl) :
    DE C X W (.Call (.Attribute o name apos) (e :: es) [] cpos) (bmE ty fm fo fas) :=
  let ⟨_, po, so⟩ := ho.ex; let ⟨_, pb, sb⟩ := ha.ex
  ⟨_, pe_bm pa slot hty hm po pb hbase hfew hline hs hplain, fun g σ H r O R S Q h => so.seq R S h fun d O1 v g1 H1 e1 R1 S1 s1 h1 => by
    split at h1
    · rename_i hy
      exact ⟨hK ▸ ht g1 H1 O1 R1 d v s1 hy, sb.seq R1 S1 h1 fun ds O2 vs g2 H2 e2 R2 S2 s2 h2 => hr g2 H2 O2 R2 d ds v vs (s1.mono e2.le) s2 σ Q h2⟩
    · exact h1.elim⟩
theorem d_bm0 (hK : X.K = C.K) (pa : PlainAttrs T) (slot : Slot T name id) (hty : typeOf (.builtin id) = pure (.type "method_descriptor")) (hm : MtR X id rm) (hr : SatM C W rm fm) (ht : SatT C T ty) (ho : DE C X W o fo)
    (hbase : attributeBase o name X.env (eval o X.env) = eval o X.env := by rfl) (hline : (apos.endLine == cpos.line) = true := by rfl) :
    DE C X W (.Call (.Attribute o name apos) [] [] cpos) (bmE ty fm fo nilA) :=
  let ⟨_, po, so⟩ := ho.ex
  ⟨_, pe_bm0 pa slot hty hm po hbase hline, fun g σ H r O R S Q h => so.seq R S h fun d O1 v g1 H1 e1 R1 S1 s1 h1 => by
    split at h1
    · rename_i hy
      exact ⟨hK ▸ ht g1 H1 O1 R1 d v s1 hy, hr g1 H1 O1 R1 d [] v [] s1 (by simp [ShrL]) σ Q h1⟩
    · exact h1.elim⟩
/-- xs.append(y) -/
def appendF : D → List D → Sto → ER := fun d ds O => match d, ds with
  | .ob l, [y] => (match O[l]? with | some (.lst xs) => if xs.length < sizeLine then .ok .non (O.set l (.lst (xs ++ [y]))) else .bad | _ => .bad)
  | _, _ => .bad
theorem s_append : SatM C W rAppend appendF := by
  intro g H O R d ds v vs s sl σ Q h
  unfold appendF at h
  split at h
  · rename_i l y
    simp only [Shr] at s
    obtain ⟨rfl, hl⟩ := s
    obtain ⟨w, rfl, sy⟩ := shrL_one sl
    split at h
    · rename_i xs e
      split at h
      · rename_i hz
        obtain ⟨ws, h1, h2⟩ := R.cell l _ e
        refine ⟨_, ws, w, rfl, rfl, h1, by rw [shrL_len h2]; exact hz, ?_⟩
        refine h .non g _ (Ext.set R hl) (R.set hl ⟨ws ++ [w], upd_same, shrL_append h2 ?_⟩) rfl
        simp only [ShrL]
        exact ⟨w, [], rfl, sy, rfl⟩
      · exact h.elim
    · exact h.elim
  · exact h.elim
end
end Dn
set_option Elab.async false
set_option linter.all false
set_option maxRecDepth 100000
set_option maxHeartbeats 2000000
namespace Dn
open PySem PySem.Spec PyProof.Rows L2
section
variable {C : Ctx} {X : Cx} {W : WX}
/-! ### defs -/
abbrev Fn := List D → Sto → ER
def spD (C : Ctx) (np : Nat) (fn : Fn) : Sp := fun vs H Q E => ∃ g O ds, ds.length = np ∧ RepO C g H O ∧ ShrL C.K g ds vs ∧ Post C (fun cv dx _ H' => E cv dx H') [] g H (fn ds O) Q
def runFn (n : Nat) (B : DS0) : Fn := fun ds O => match B (ds.map some ++ List.replicate (n - ds.length) none) O with
  | .nx _ O' => .ok .non O' | .ret d O' => .ok d O' | .exc e _ O' => .exc e O' | .bk _ _ => .bad | .ct _ _ => .bad | .bad => .bad
theorem rep_start {g : G} {N : List Str} {ds : List D} {vs : List V} (s : ShrL C.K g ds vs) : RepS C g (L2.start N vs) (ds.map some ++ List.replicate (N.length - ds.length) none) := by
  have hl := shrL_len s
  refine ⟨by simp [L2.start, hl], fun i d e => ?_⟩
  by_cases q : i < ds.length
  · rw [List.getElem?_append_left (by simpa using q), List.getElem?_map] at e
    cases z : ds[i]? with
    | none => rw [z] at e; cases e
    | some d' =>
      rw [z] at e
      simp at e
      subst e
      obtain ⟨v, h1, h2⟩ := shrL_get s z
      refine ⟨v, ?_, h2⟩
      unfold L2.start
      rw [List.getElem?_append_left (by simpa [hl] using q), List.getElem?_map, h1]
      rfl
  · rw [List.getElem?_append_right (by simpa using q)] at e
    rw [List.getElem?_replicate] at e
    split at e <;> cases e
section
variable {P : Program} {w : World} {K : PySem.W.Frag} {mg : Str → Option Value} {base : Heap}
theorem fn_okD {x qual : Str} {st : Stmt} {f : Addr} {fd : FuncData} {N ps : List Str} {k : Nat} {B : DS0} (F : Fun K x qual st f fd) (S : FnScope N ps (defScope st))
    (h : ∀ (cdv : Value) (A : Around) (outer : List Env) (s : Shared) (H : Hp) (E : XK), Room k (A.deeper (envOfC qual (defScope st) s.heap.objs.size f cdv)) →
      DSs C (cxOf (L2.CX P w) P w K mg base N qual (defScope st) f cdv A outer s H E) (fun cv dx _ H' => E cv dx H') (defBody st) B) :
    FnOk P w K mg base (L2.CX P w) (k + 1) f fd ps (spD C ps.length (runFn N.length B)) := by
  refine F.okX S (fun vs H Q E h => ?_) (fun cdv A outer s H vs Q E hr hsp => ?_)
  · obtain ⟨g, O, ds, h1, _, h2, _⟩ := h
    rw [shrL_len h2, h1]
  · obtain ⟨t, ht, hs⟩ := (h cdv A outer s H E hr).ex
    obtain ⟨g, O, ds, h1, R, s1, q⟩ := hsp
    refine ⟨t, ht, hs g _ H _ O R (rep_start s1) _ ?_⟩
    unfold runFn at q
    cases e : B (ds.map some ++ List.replicate (N.length - ds.length) none) O with
    | nx r O' => rw [e] at q; exact fun σ' g' H' e1 e2 e3 => q .non g' H' e1 e2 rfl
    | ret d O' => rw [e] at q; exact q
    | bk r O' => rw [e] at q; exact q.elim
    | ct r O' => rw [e] at q; exact q.elim
    | exc er r O' => rw [e] at q; exact fun cv dx σ' g' H' e1 e2 e3 e4 => q cv dx g' H' e1 e2 e4
    | bad => rw [e] at q; exact q
end
/-- a global def that keeps its promise -/
structure GF (P : Program) (w : World) (K : PySem.W.Frag) (mg : Str → Option Value) (base : Heap) (C : Ctx) (x : Str) (k np : Nat) (fn : Fn) : Prop where
  ex : ∃ f fd ps, ps.length = np ∧ FnOk P w K mg base (L2.CX P w) k f fd ps (spD C np fn) ∧ mg x = some (.ref f) ∧ PySem.W.keepIn K (.ref f) = true ∧ Binds K fd ps []
theorem GF.mono {P : Program} {w : World} {K : PySem.W.Frag} {mg : Str → Option Value} {base : Heap} {x : Str} {j k np : Nat} {fn : Fn} (h : GF P w K mg base C x j np fn) (hk : j ≤ k) : GF P w K mg base C x k np fn := by
  obtain ⟨f, fd, ps, h1, h2, h3⟩ := h.ex
  exact ⟨f, fd, ps, h1, h2.mono hk, h3⟩
def fnE (np : Nat) (fn : Fn) (fas : Rho → Sto → Res (List D)) : DE0 := fun r O => (fas r O).bind fun ds O1 => if ds.length = np then fn ds O1 else .bad
theorem post_W {α β : Type} [Rel α β] {σ : L2.St} {g : G} {H : Hp} {x : Res α} {Q : β → Hp → Prop} (h : Post C W σ g H x Q) : Post C (fun cv dx _ H' => W cv dx σ H') [] g H x Q := by
  cases x with
  | ok d O => exact h
  | exc e O => exact h
  | bad => exact h
theorem sat_fn {t : TA} {np : Nat} {fn : Fn} {fas : Rho → Sto → Res (List D)} (sa : Sat C W t fas) : Sat C W (tCallS (spD C np fn) (WE W) t) (fnE np fn fas) := fun g σ H ρ O R S Q h =>
  sa.seq R S h fun ds O1 vs g1 H1 e1 R1 S1 s1 h1 => by
    split at h1
    · rename_i hl
      exact ⟨g1, O1, ds, hl, R1, s1, post_W h1⟩
    · exact h1.elim
variable {x m : Str} {p pos apos : Pos} {e o : Expr} {es : List Expr} {fas : Rho → Sto → Res (List D)} {fe fo : DE0} {k np : Nat} {fn : Fn}
theorem d_call (G1 : GF X.prog X.w X.K X.mg X.base C x k np fn) (hr : Room k X.A) (tk : Takes X W) (hg : Gl X x) (ha : DA C X W (e :: es) fas)
    (hdb : (x == ("__debug__" : Str)) = false := by decide) (he : starEach (e :: es) X.env = (false, eval e X.env) :: starEach es X.env := by rfl) (hpl : (backTo pos (starEach es X.env)).any (·.1) = false := by rfl) :
    DE C X W (.Call (.Name x p) (e :: es) [] pos) (fnE np fn fas) := by
  obtain ⟨f, fd, ps, h1, F, hm, hk, hb⟩ := G1.ex
  obtain ⟨_, pa, sa⟩ := ha.ex
  exact ⟨_, pe_callS F hr hg hm hk hb (fun σ => passAt tk σ) pa hdb he hpl, sat_fn sa⟩
theorem pe_call0S {CX : CXT} {f : Addr} {fd : FuncData} {ps : List Str} {sp : Sp} {E : L2.St → XK} (F : FnOk X.prog X.w X.K X.mg X.base CX k f fd ps sp) (hr : Room k X.A) (hg : Gl X x) (hm : X.mg x = some (.ref f)) (hk : PySem.W.keepIn X.K (.ref f) = true) (hb : Binds X.K fd ps []) (hx : ∀ σ, PassesAt CX X σ (E σ))
    (hdb : (x == ("__debug__" : Str)) = false := by decide) : PE X (.Call (.Name x p) [] [] pos) (tCallS sp E tNil) := by
  refine ⟨fun pins s σ H Q I h => ?_⟩
  refine wpAny_Call_Name_kw (ld_glob I hg hm ?_ hdb)
  exact PySem.W.callWith_K0 I.kIn hk (run_fnS (us := []) F hr hb (hx σ) I .nil h)
theorem sat_nil : Sat C W tNil nilA := fun g σ H r O R S Q h => Post.fin R (by show ShrL _ _ [] []; simp [ShrL]) h
theorem d_call0 (G1 : GF X.prog X.w X.K X.mg X.base C x k np fn) (hr : Room k X.A) (tk : Takes X W) (hg : Gl X x)
    (hdb : (x == ("__debug__" : Str)) = false := by decide) : DE C X W (.Call (.Name x p) [] [] pos) (fnE np fn nilA) := by
  obtain ⟨f, fd, ps, h1, F, hm, hk, hb⟩ := G1.ex
  exact ⟨_, pe_call0S F hr hg hm hk hb (fun σ => passAt tk σ) hdb, sat_fn sat_nil⟩
/-! ### closed defs: run over no cells at all -/
mutual
def noOb : D → Bool
  | .ob _ => false
  | .tup ds => noObL ds
  | .lst ds => noObL ds
  | .scr ds => noObL ds
  | _ => true
def noObL : List D → Bool
  | [] => true
  | d :: ds => noOb d && noObL ds
end
def noObF : List (Nat × D) → Bool
  | [] => true
  | p :: ds => noOb p.2 && noObF ds
mutual
theorem shr_noOb {K : PySem.W.Frag} {g g' : G} (h : ∀ a o, g.F a = some o → g'.F a = some o) : ∀ (d : D) (v : V), noOb d = true → Shr K g d v → Shr K g' d v
  | .non, _, _, s => s
  | .bl _, _, _, s => s
  | .int _, _, _, s => s
  | .str _, _, _, s => s
  | .tup ds, v, n, s => by
    simp only [Shr] at s ⊢
    obtain ⟨a, vs, h1, h2, h3⟩ := s
    exact ⟨a, vs, h1, ex_t h h2, shrL_noOb h ds vs (by simpa [noOb] using n) h3⟩
  | .lst ds, v, n, s => by
    simp only [Shr] at s ⊢
    obtain ⟨a, vs, h1, h2, h3⟩ := s
    exact ⟨a, vs, h1, h _ _ h2, shrL_noOb h ds vs (by simpa [noOb] using n) h3⟩
  | .scr ds, v, n, s => by
    simp only [Shr] at s ⊢
    obtain ⟨a, vs, h1, h2, h3⟩ := s
    exact ⟨a, vs, h1, ex_l h h2, shrL_noOb h ds vs (by simpa [noOb] using n) h3⟩
  | .ob _, _, n, _ => by simp [noOb] at n
theorem shrL_noOb {K : PySem.W.Frag} {g g' : G} (h : ∀ a o, g.F a = some o → g'.F a = some o) : ∀ (d : List D) (v : List V), noObL d = true → ShrL K g d v → ShrL K g' d v
  | [], _, _, s => by simp only [ShrL] at s ⊢; exact s
  | d :: ds, vs, n, s => by
    simp only [ShrL] at s ⊢
    obtain ⟨v, r, h1, h2, h3⟩ := s
    simp only [noObL, Bool.and_eq_true] at n
    exact ⟨v, r, h1, shr_noOb h d v n.1 h2, shrL_noOb h ds r n.2 h3⟩
end
theorem shrF_noOb {g g' : G} (h : ∀ a o, g.F a = some o → g'.F a = some o) : ∀ (d : List (Nat × D)) (v : List (Str × V)), noObF d = true → ShrF C g d v → ShrF C g' d v
  | [], _, _, s => s
  | p :: ds, vs, n, ⟨v, r, h1, h2, h3, h4⟩ => by
    simp only [noObF, Bool.and_eq_true] at n
    exact ⟨v, r, h1, h2, shr_noOb h _ _ n.1 h3, shrF_noOb h ds r n.2 h4⟩
/-- what a def gives over no cells, in the midst of any -/
def closeFn (fn : Fn) : Fn := fun ds O => if noObL ds then match fn ds [] with
  | .ok d _ => if noOb d then .ok d O else .bad
  | .exc e _ => if noObF e.fs then .exc e O else .bad
  | .bad => .bad else .bad
def G.none' (g : G) : G := { g with n := 0 }
theorem ErOk.to {g g' : G} {H : Hp} {e : Er} {cv : Value} {dx : Option Addr} (h : ∀ a o, g.F a = some o → g'.F a = some o) (n : noObF e.fs = true) (k : ErOk C g H e cv dx) : ErOk C g' H e cv dx := by
  obtain ⟨A, h1, h2, h3⟩ := k
  refine ⟨A, h1, h2, ?_⟩
  rcases h3 with h3 | ⟨d, vs, h3, h4, h5, h6⟩
  · exact .inl h3
  · exact .inr ⟨d, vs, h3, h4, h5, shrF_noOb h _ _ n h6⟩
theorem close_post {g : G} {H : Hp} {O : Sto} {ds : List D} {vs : List V} (R : RepO C g H O) (s : ShrL C.K g ds vs) {W' : WX} {σ : L2.St} {Q : VK} (h : Post C W' σ g H (closeFn fn ds O) Q) :
    RepO C g.none' H [] ∧ ShrL C.K g.none' ds vs ∧ Post C W' σ g.none' H (fn ds []) Q := by
  unfold closeFn at h
  split at h
  · rename_i hn
    refine ⟨⟨rfl, R.F, fun l c e => by simp at e, fun l hl => absurd hl (Nat.not_lt_zero _), fun i j hi => absurd hi (Nat.not_lt_zero _)⟩, shrL_noOb (g := g) (g' := g.none') (fun _ _ h => h) _ _ hn s, ?_⟩
    have back : ∀ {g' : G} {H' : Hp}, Ext g.none' H g' H' → (∀ a o, g'.F a = some o → H' a = some o) → RepO C { F := g'.F, θ := g.θ, n := g.n } H' O ∧ Ext g H { F := g'.F, θ := g.θ, n := g.n } H' := fun {g' H'} e hF => by
      have keep : ∀ a o, H a = some o → H' a = some o := fun a o q => e.keep a o q fun l hl => absurd hl (Nat.not_lt_zero _)
      have le : GLe g { F := g'.F, θ := g.θ, n := g.n } := ⟨e.le.F, fun _ _ => rfl, Nat.le_refl _⟩
      refine ⟨⟨R.n, hF, fun l c q => ?_, fun l hl => ?_, R.inj⟩, ⟨le, fun a o q _ => keep a o q, fun l h h' => absurd h' (Nat.not_lt.mpr h), fun l hl => ?_, fun a o q => e.frz a o q⟩⟩
      · have hl : l < g.n := by rw [R.n]; exact (List.getElem?_eq_some_iff.mp q).1
        obtain ⟨o, ho, _⟩ := (R.cell l c q).some'
        exact ((R.cell l c q).mono le).heap (by show H (g.θ l) = H' (g.θ l); rw [ho, keep _ _ ho])
      · show g'.F (g.θ l) = none
        cases q : g'.F (g.θ l) with
        | none => rfl
        | some o =>
          exfalso
          rcases e.frz _ o q with z | z
          · have z' : g.F (g.θ l) = some o := z
            rw [R.fresh l hl] at z'; cases z'
          · exact R.trk hl z
      · cases q : H (g.θ l) with
        | none => exact absurd q (R.trk hl)
        | some o => rw [keep _ _ q]; exact fun z => nomatch z
    cases q : fn ds [] with
    | ok d O' =>
      rw [q] at h
      simp only at h
      split at h
      · rename_i hd
        intro v g' H' e1 R1 s1
        obtain ⟨R2, e2⟩ := back e1 R1.F
        exact h v _ H' e2 R2 (shr_noOb (g := g') (g' := { F := g'.F, θ := g.θ, n := g.n }) (fun _ _ h => h) _ _ hd s1)
      · exact h.elim
    | exc e O' =>
      rw [q] at h
      simp only at h
      split at h
      · rename_i hd
        intro cv dx g' H' e1 R1 k1
        obtain ⟨R2, e2⟩ := back e1 R1.F
        exact h cv dx _ H' e2 R2 (ErOk.to (g := g') (g' := { F := g'.F, θ := g.θ, n := g.n }) (fun _ _ h => h) hd k1)
      · exact h.elim
    | bad => rw [q] at h; exact h.elim
  · exact h.elim
theorem GF.close {P : Program} {w : World} {K : PySem.W.Frag} {mg : Str → Option Value} {base : Heap} (h : GF P w K mg base C x k np fn) : GF P w K mg base C x k np (closeFn fn) := by
  obtain ⟨f, fd, ps, h1, F, h3⟩ := h.ex
  refine ⟨f, fd, ps, h1, F.imp fun vs H Q E ⟨g, O, ds, h4, R, s, q⟩ => ?_, h3⟩
  obtain ⟨R', s', q'⟩ := close_post R s q
  exact ⟨_, [], ds, h4, R', s', q'⟩
end
end Dn
set_option Elab.async false
set_option linter.all false
set_option maxRecDepth 100000
set_option maxHeartbeats 2000000
namespace Dn
open PySem PySem.Spec PyProof.Rows L2
section
variable {C : Ctx} {X : Cx} {W : WX}
variable {e a b c : Expr} {fe fa fb : DE0} {pos pos' : Pos} {st : Stmt} {rest sts : List Stmt} {f g : DS0} {ft : Rho → Sto → Res Bool}
/-! ### blocks and small statements -/
def nilS : DS0 := fun r O => .nx r O
def consS (f g : DS0) : DS0 := fun r O => (f r O).bind g
theorem ss_nil : DSs C X W [] nilS := ⟨_, pss_nil, fun g σ H r O R S E h => h σ g H (Ext.refl R) R S⟩
theorem ss_one (h : DS C X W st f) : DSs C X W [st] f := let ⟨_, p, s⟩ := h.ex; ⟨_, pss_one p, s⟩
theorem ss_cons (h : DS C X W st f) (k : DSs C X W rest g) : DSs C X W (st :: rest) (consS f g) :=
  let ⟨_, p, s⟩ := h.ex; let ⟨_, q, t⟩ := k.ex
  ⟨_, pss_cons p q, fun g σ H r O R S E h => SatS.seq s R S h fun r' O' σ' g' H' e1 R1 S1 h1 => t g' σ' H' r' O' R1 S1 _ h1⟩
def exprS (f : DE0) : DS0 := fun r O => (f r O).bindS r fun _ O1 => .nx r O1
theorem s_expr (he : DE C X W e fe) (hs : swapsWith e none pos.line X.env = pure false := by rfl) : DS C X W (.Expr e pos) (exprS fe) :=
  let ⟨_, p, s⟩ := he.ex; ⟨_, ps_expr p hs, fun g σ H r O R S E h => s.seqS R S h fun d O1 v g1 H1 e1 R1 S1 s1 h1 => h1 σ g1 H1 (Ext.refl R1) R1 S1⟩
theorem s_doc {x j} : DS C X W (.Expr (.Constant (.str x) j pos) pos') nilS := ⟨_, ps_doc, fun g σ H r O R S E h => h σ g H (Ext.refl R) R S⟩
theorem s_pass : DS C X W (.Pass pos) nilS := ⟨_, ps_pass, fun g σ H r O R S E h => h σ g H (Ext.refl R) R S⟩
def breakS : DS0 := fun r O => .bk r O
def contS : DS0 := fun r O => .ct r O
theorem s_break : DS C X W (.Break pos) breakS := ⟨_, ps_break, fun g σ H r O R S E h => h σ g H (Ext.refl R) R S⟩
theorem s_continue : DS C X W (.Continue pos) contS := ⟨_, ps_continue, fun g σ H r O R S E h => h σ g H (Ext.refl R) R S⟩
def retS (f : DE0) : DS0 := fun r O => (f r O).bindS r fun d O1 => .ret d O1
def retN : DS0 := fun _ O => .ret .non O
theorem s_ret (he : DE C X W e fe) : DS C X W (.Return (some e) pos) (retS fe) :=
  let ⟨_, p, s⟩ := he.ex; ⟨_, ps_ret p, fun g σ H r O R S E h => s.seqS R S h fun d O1 v g1 H1 e1 R1 S1 s1 h1 => h1 v g1 H1 (Ext.refl R1) R1 s1⟩
theorem s_retN : DS C X W (.Return none pos) retN := ⟨_, ps_retN, fun g σ H r O R S E h => h .non g H (Ext.refl R) R rfl⟩
def ifS (c : Rho → Sto → Res Bool) (f g : DS0) : DS0 := fun r O => (c r O).bindS r fun k O1 => if k then f r O1 else g r O1
theorem s_if {xs ys : List Stmt} (hc : DT C X W c ft) (ha : DSs C X W xs f) (hb : DSs C X W ys g) : DS C X W (.If c xs ys pos) (ifS ft f g) :=
  let ⟨_, p, s⟩ := hc.ex; let ⟨_, q, t⟩ := ha.ex; let ⟨_, q', t'⟩ := hb.ex
  ⟨_, ps_if p q q', fun g σ H r O R S E h => s.seqS R S h fun k O1 k' g1 H1 e1 R1 S1 s1 h1 => by
    cases s1
    cases k with
    | true => rw [if_pos rfl]; exact t g1 σ H1 r O1 R1 S1 _ h1
    | false => rw [if_neg Bool.false_ne_true]; exact t' g1 σ H1 r O1 R1 S1 _ h1⟩
/-! ### targets -/
abbrev TG0 := D → Rho → Sto → Option (Rho × Sto)
def PostG (C : Ctx) (own : List Nat) (σ : L2.St) (g : G) (H : Hp) (x : Option (Rho × Sto)) (Q : L2.St → Hp → Prop) : Prop := match x with
  | none => False
  | some (r, O) => ∀ σ' g' H', Ext g H g' H' → RepO C g' H' O → RepS C g' σ' r → (∀ vs : List Nat, (∀ i ∈ own, i ∈ vs) → wipe σ' vs = wipe σ vs) → Q σ' H'
def SatG (C : Ctx) (own : List Nat) (t : TG) (f : TG0) : Prop := ∀ g σ H r O, RepO C g H O → RepS C g σ r → ∀ d v, Shr C.K g d v → ∀ Q, PostG C own σ g H (f d r O) Q → t v σ H Q
structure DG (C : Ctx) (X : Cx) (tg : Expr) (own : List Nat) (f : TG0) : Prop where
  ex : ∃ t, PG X tg t ∧ SatG C own t f
theorem set_wipe {σ : L2.St} {i : Nat} {v : Option V} : ∀ {vs : List Nat}, i ∈ vs → wipe (σ.set i v) vs = wipe σ vs
  | [], h => by cases h
  | j :: vs, h => by
    show (wipe (σ.set i v) vs).set j none = (wipe σ vs).set j none
    by_cases e : i ∈ vs
    · rw [set_wipe e]
    · have ij : i = j := by
        rcases List.mem_cons.mp h with h | h
        · exact h
        · exact absurd h e
      subst ij
      have : ∀ (ws : List Nat), i ∉ ws → wipe (σ.set i v) ws = (wipe σ ws).set i v := by
        intro ws
        induction ws with
        | nil => intro _; rfl
        | cons k ws ih =>
          intro hk
          simp only [List.mem_cons, not_or] at hk
          show (wipe (σ.set i v) ws).set k none = ((wipe σ ws).set k none).set i v
          rw [ih hk.2, List.set_comm _ _ hk.1]
      rw [this vs e, List.set_set]
def nameG (i : Nat) : TG0 := fun d r O => some (r.set i (some d), O)
theorem g_name (i : Nat) {x : Str} (hN : X.N.Nodup) (hi : X.N[i]? = some x := by rfl) (hx : Loc X.env.scope x := by first | exact Or.inl rfl | exact Or.inr rfl) (hf : X.fn x = true ∨ X.env.scope.names.lookup x = some .local := by first | exact .inl rfl | exact .inr rfl | assumption) : DG C X (.Name x pos) [i] (nameG i) :=
  ⟨_, pg_name hN hi hx hf, fun g σ H r O R S d v s Q h => h _ g H (Ext.refl R) R (S.set s) fun vs hv => set_wipe (hv i (by simp))⟩
abbrev TGs0 := List D → Rho → Sto → Option (Rho × Sto)
structure DGs (C : Ctx) (X : Cx) (ts : List Expr) (own : List Nat) (f : TGs0) : Prop where
  ex : ∃ t, PGs X ts t ∧ ∀ g σ H r O, RepO C g H O → RepS C g σ r → ∀ ds vs, ShrL C.K g ds vs → ∀ Q, PostG C own σ g H (f ds r O) Q → t vs σ H Q
def nilG : TGs0 := fun ds r O => match ds with | [] => some (r, O) | _ => none
def consG (f : TG0) (g : TGs0) : TGs0 := fun ds r O => match ds with | d :: ds => (match f d r O with | some (r1, O1) => g ds r1 O1 | none => none) | [] => none
theorem gs_nil : DGs C X [] [] nilG := ⟨_, pgs_nil, fun g σ H r O R S ds vs s Q h => by
  unfold nilG at h
  split at h
  · simp only [ShrL] at s; subst s
    exact ⟨rfl, h σ g H (Ext.refl R) R S fun _ _ => rfl⟩
  · exact h.elim⟩
theorem gs_cons {tg : Expr} {ts : List Expr} {o o' : List Nat} {f : TG0} {fs : TGs0} (h : DG C X tg o f) (k : DGs C X ts o' fs) (hs : (assignEach (tg :: ts) X.env).map (·.2) = assign tg X.env :: (assignEach ts X.env).map (·.2) := by rfl) :
    DGs C X (tg :: ts) (o ++ o') (consG f fs) :=
  let ⟨_, p, s⟩ := h.ex; let ⟨_, q, t⟩ := k.ex
  ⟨_, pgs_cons p q hs, fun g σ H r O R S ds vs sd Q h => by
    unfold consG at h
    split at h
    · rename_i d ds
      simp only [ShrL] at sd
      obtain ⟨v, vr, rfl, h2, h3⟩ := sd
      refine ⟨v, vr, rfl, s g σ H r O R S d v h2 _ ?_⟩
      split at h
      · rename_i r1 O1 e
        rw [e]
        intro σ1 g1 H1 e1 R1 S1 w1
        refine t g1 σ1 H1 r1 O1 R1 S1 ds vr (ShrL.mono e1.le _ _ h3) Q ?_
        cases q : fs ds r1 O1 with
        | none => rw [q] at h; exact h.elim
        | some z =>
          obtain ⟨r2, O2⟩ := z
          rw [q] at h
          exact fun σ2 g2 H2 e2 R2 S2 w2 => h σ2 g2 H2 (e1.trans e2) R2 S2 fun ws hw => (w2 ws fun i hi => hw i (by simp [hi])).trans (w1 ws fun i hi => hw i (by simp [hi]))
      · exact h.elim
    · exact h.elim⟩
/-- (a, b, ..) = a tuple or a list of that length -/
def tupG (n : Nat) (f : TGs0) : TG0 := fun d r O => match seqR d O with | some ds => if ds.length = n then f ds r O else none | none => none
theorem PG.or {tg : Expr} {t t' : TG} (h : PG X tg t) (h' : PG X tg t') : PG X tg (fun v σ H Q => t v σ H Q ∨ t' v σ H Q) :=
  ⟨fun pins s σ H v u Q I r q => q.elim (h.run pins s σ H v u Q I r) (h'.run pins s σ H v u Q I r)⟩
theorem g_tup {es : List Expr} {k : Nat} {own : List Nat} {fs : TGs0} {n : Nat} (hK : X.K = C.K) (hc : X.calm = true) (h : DGs C X es own fs)
    (hn : (assignEach es X.env).length = n := by rfl) (hst : (assignEach es X.env).findIdx? (·.1) = none := by rfl) : DG C X (.Tuple es k pos) own (tupG n fs) :=
  let ⟨_, p, s⟩ := h.ex
  ⟨_, PG.or (pg_tup hc p hn hst) (pg_lst hc p hn hst), fun g σ H r O R S d v sd Q h => by
    unfold tupG at h
    split at h
    · rename_i ds e
      split at h
      · rename_i hl
        obtain ⟨a, vs, rfl, h2, h3⟩ := seqR_of R sd e
        have hl' : vs.length = n := by rw [shrL_len h3]; exact hl
        rw [hK]
        rcases h2 with h2 | h2
        · exact .inr ⟨a, vs, rfl, h2, hl', s g σ H r O R S ds vs h3 Q h⟩
        · exact .inl ⟨a, vs, rfl, h2, hl', s g σ H r O R S ds vs h3 Q h⟩
      · exact h.elim
    · exact h.elim⟩
/-- name = e -/
def setS (i : Nat) (f : DE0) : DS0 := fun r O => (f r O).bindS r fun d O1 => .nx (r.set i (some d)) O1
theorem s_set (i : Nat) {x : Str} (hN : X.N.Nodup) (he : DE C X W e fe) (hi : X.N[i]? = some x := by rfl) (hx : Loc X.env.scope x := by first | exact Or.inl rfl | exact Or.inr rfl) (hs : swapsWith e (some (.Name x pos')) pos.line X.env = pure false := by rfl)
    (hf : X.fn x = true ∨ X.env.scope.names.lookup x = some .local := by first | exact .inl rfl | exact .inr rfl | assumption) : DS C X W (.Assign [.Name x pos'] e pos) (setS i fe) :=
  let ⟨_, p, s⟩ := he.ex; ⟨_, ps_set hN hi hx p hs hf, fun g σ H r O R S E h => s.seqS R S h fun d O1 v g1 H1 e1 R1 S1 s1 h1 => h1 _ g1 H1 (Ext.refl R1) R1 (S1.set s1)⟩
/-- target = e -/
def asgS (t : TG0) (f : DE0) : DS0 := fun r O => (f r O).bindS r fun d O1 => match t d r O1 with | some (r', O') => .nx r' O' | none => .bad
theorem s_asg {tg : Expr} {own : List Nat} {t : TG0} (he : DE C X W e fe) (hg : DG C X tg own t) (hs : swapsWithSole [tg] e pos.line X.env = pure false := by rfl) (hw : swappedStores [tg] e X.env = pure none := by rfl)
    (h1 : (assignEach [tg] X.env).map (·.2) = [assign tg X.env] := by rfl) : DS C X W (.Assign [tg] e pos) (asgS t fe) :=
  let ⟨_, p, s⟩ := he.ex; let ⟨_, q, u⟩ := hg.ex
  ⟨_, ps_asg p q hs hw h1, fun g σ H r O R S E h => s.seqS R S h fun d O1 v g1 H1 e1 R1 S1 s1 h1 => by
    refine u g1 σ H1 r O1 R1 S1 d v s1 _ ?_
    cases z : t d r O1 with
    | none => rw [z] at h1; exact h1.elim
    | some y =>
      obtain ⟨r', O'⟩ := y
      rw [z] at h1
      exact fun σ' g' H' e2 R2 S2 _ => h1 σ' g' H' e2 R2 S2⟩
/-- a[b] = e -/
def stoD (a b d : D) (O : Sto) : Option Sto := match a with
  | .ob l => match O[l]? with
    | some (.lst xs) => (match b with | .int i => (match ixN xs.length i with | some j => some (O.set l (.lst (xs.set j d))) | none => none) | _ => none)
    | some (.dic kvs) => (match keyD b with | some k => if kvs.length < sizeLine then some (O.set l (.dic (putD kvs k d))) else none | none => none)
    | _ => none
  | _ => none
def subG (fa fb : DE0) : TG0 := fun d r O => match fa r O with
  | .ok a O1 => (match fb r O1 with | .ok b O2 => (match stoD a b d O2 with | some O3 => some (r, O3) | none => none) | _ => none)
  | _ => none
def rSetA : TSet := fun o i v H Q => rSetL o i v H Q ∨ ∃ a H', o = .ref a ∧ DPut H a i v H' ∧ Q H'
theorem set_all (hu : X.A.units + 1 < cLine) : PSet X rSetA := by
  intro pins s σ H o i v ov iv u Q I r1 r2 r3 h
  rcases h with h | ⟨a, H', rfl, h2, h3⟩
  · exact set_list pins s σ H o i v ov iv u Q I r1 r2 r3 h
  · cases r1
    exact d_setItem hu I h2 r2 r3 fun s4 I4 => ⟨H', I4, h3⟩
theorem ok_seq {σ : L2.St} {gh : G} {H : Hp} {r : Rho} {O : Sto} {te : TE} {f : DE0} (p : Sat C W te f) (R : RepO C gh H O) (S : RepS C gh σ r) {d : D} {O' : Sto} (h : f r O = .ok d O') {Q : VK}
    (c : ∀ v g' H', Ext gh H g' H' → RepO C g' H' O' → RepS C g' σ r → Shr C.K g' d v → Q v H') : te σ H Q := by
  refine p gh σ H r O R S Q ?_
  rw [h]
  exact fun v g' H' e1 R1 s1 => c v g' H' e1 R1 (S.mono e1.le) s1
theorem g_sub (hu : X.A.units + 1 < cLine) (ha : DE C X W a fa) (hb : DE C X W b fb)
    (hs : ∀ v, assign (.Subscript a b pos) X.env v = (do
      let ov ← holding [v] (eval a X.env)
      let iv ← holding [v, ov] (eval b X.env)
      standAt pos
      holding [v, ov, iv] (setItem ov iv v)
      release [v, ov, iv] []) := by intro _; rfl) : DG C X (.Subscript a b pos) [] (subG fa fb) :=
  let ⟨_, p, s⟩ := ha.ex; let ⟨_, q, t⟩ := hb.ex
  ⟨_, pg_sub p q (set_all hu) hs, fun g σ H r O R S d v sd Q h => by
    unfold subG at h
    split at h
    · rename_i da O1 e1
      split at h
      · rename_i db O2 e2
        split at h
        · rename_i O3 e3
          refine ok_seq s R S e1 fun va g1 H1 x1 R1 S1 s1 => ok_seq t R1 S1 e2 fun vb g2 H2 x2 R2 S2 s2 => ?_
          have sd2 := Shr.mono (x1.le.trans x2.le) _ _ sd
          have s1' := Shr.mono x2.le _ _ s1
          unfold stoD at e3
          split at e3
          · rename_i l
            simp only [Shr] at s1'
            obtain ⟨rfl, hl⟩ := s1'
            split at e3
            · rename_i xs ec
              split at e3
              · rename_i i
                cases s2
                split at e3
                · rename_i j ej
                  cases e3
                  obtain ⟨vs, h1, h2⟩ := R2.cell l _ ec
                  refine .inl ⟨_, vs, i, j, rfl, rfl, h1, by rw [shrL_len h2]; exact ej, ?_⟩
                  exact h σ g2 _ ((x1.trans x2).trans (Ext.set R2 hl)) (R2.set hl ⟨_, upd_same, shrL_set sd2 j h2⟩) S2 fun _ _ => rfl
                · cases e3
              · cases e3
            · rename_i kvs ec
              split at e3
              · rename_i k ek
                split at e3
                · rename_i hz
                  cases e3
                  have := keyD_of s2 ek
                  subst this
                  obtain ⟨vs, h1, h2⟩ := R2.cell l _ ec
                  refine .inr ⟨_, _, rfl, DPut.k h1 (by rw [shrK_len h2]; exact hz), ?_⟩
                  exact h σ g2 _ ((x1.trans x2).trans (Ext.set R2 hl)) (R2.set hl ⟨_, upd_same, shrK_put sd2 h2⟩) S2 fun _ _ => rfl
                · cases e3
              · cases e3
            · cases e3
          · cases e3
        · exact h.elim
      · exact h.elim
    · exact h.elim⟩
/-! ### while -/
def whileL (c : Rho → Sto → Res Bool) (b : DS0) : Nat → Rho → Sto → SR
  | 0, _, _ => .bad
  | n + 1, r, O => (c r O).bindS r fun k O1 => if k then (match b r O1 with
      | .nx r2 O2 => whileL c b n r2 O2 | .ct r2 O2 => whileL c b n r2 O2 | .bk r2 O2 => .nx r2 O2 | .ret d O2 => .ret d O2 | .exc e r2 O2 => .exc e r2 O2 | .bad => .bad) else .nx r O1
def whileS (n : Nat) (c : Rho → Sto → Res Bool) (b : DS0) : DS0 := whileL c b n
theorem s_while (n : Nat) {body : List Stmt} (hp : PassesOwn (model X.prog X.w) X.A X.env X.xe) (hc : DT C X W c ft) (hb : DSs C X W body f) : DS C X W (.While c body [] pos) (whileS n ft f) :=
  let ⟨_, p, s⟩ := hc.ex; let ⟨_, q, t⟩ := hb.ex
  ⟨_, ps_while hp p q, fun g0 σ0 H0 r0 O0 R0 S0 E h0 => by
    refine ⟨fun m σ H => ∃ g r O, RepO C g H O ∧ RepS C g σ r ∧ PostS C W g H (whileL ft f m r O) E, ⟨n, g0, r0, O0, R0, S0, h0⟩, ?_⟩
    rintro m σ H ⟨g, r, O, R, S, h⟩
    cases m with
    | zero => exact h.elim
    | succ m =>
      refine s.seqS R S (show PostS C W g H ((ft r O).bindS r _) E from h) fun k O1 k' g1 H1 e1 R1 S1 s1 h1 => ?_
      cases s1
      cases k with
      | false => exact h1 σ g1 H1 (Ext.refl R1) R1 S1
      | true =>
        refine ⟨fun σ' H' => ∃ g r O, RepO C g H' O ∧ RepS C g σ' r ∧ PostS C W g H' (whileL ft f m r O) E, fun σ' H' hh => ⟨m, Nat.lt_succ_self _, hh⟩, ?_⟩
        refine t g1 σ H1 r O1 R1 S1 _ ?_
        rw [if_pos rfl] at h1
        cases z : f r O1 with
        | nx r2 O2 => rw [z] at h1; exact fun σ' g' H' e2 R2 S2 => ⟨g', r2, O2, R2, S2, PostS.shift e2 h1⟩
        | ct r2 O2 => rw [z] at h1; exact fun σ' g' H' e2 R2 S2 => ⟨g', r2, O2, R2, S2, PostS.shift e2 h1⟩
        | bk r2 O2 => rw [z] at h1; exact h1
        | ret d O2 => rw [z] at h1; exact h1
        | exc e r2 O2 => rw [z] at h1; exact h1
        | bad => rw [z] at h1; exact h1⟩
/-! ### what is walked -/
mutual
def eqS : D → D → Bool
  | .non, .non => true
  | .bl a, .bl b => a == b
  | .int a, .int b => a == b
  | .str a, .str b => a == b
  | .tup a, .tup b => eqSL a b
  | .lst a, .lst b => eqSL a b
  | .scr a, .scr b => eqSL a b
  | .ob a, .ob b => a == b
  | _, _ => false
def eqSL : List D → List D → Bool
  | [], [] => true
  | a :: as, b :: bs => eqS a b && eqSL as bs
  | _, _ => false
end
mutual
theorem eqS_eq : ∀ {a b : D}, eqS a b = true → a = b
  | .non, b, h => by cases b <;> simp_all [eqS]
  | .bl _, b, h => by cases b <;> simp_all [eqS]
  | .int _, b, h => by cases b <;> simp_all [eqS]
  | .str _, b, h => by cases b <;> simp_all [eqS]
  | .ob _, b, h => by cases b <;> simp_all [eqS]
  | .tup a, b, h => by cases b <;> simp only [eqS] at h <;> first | (cases h; done) | rw [eqSL_eq h]
  | .lst a, b, h => by cases b <;> simp only [eqS] at h <;> first | (cases h; done) | rw [eqSL_eq h]
  | .scr a, b, h => by cases b <;> simp only [eqS] at h <;> first | (cases h; done) | rw [eqSL_eq h]
theorem eqSL_eq : ∀ {a b : List D}, eqSL a b = true → a = b
  | [], [], _ => rfl
  | [], _ :: _, h => by simp [eqSL] at h
  | _ :: _, [], h => by simp [eqSL] at h
  | x :: xs, y :: ys, h => by
    simp only [eqSL, Bool.and_eq_true] at h
    rw [eqS_eq h.1, eqSL_eq h.2]
end
mutual
theorem eqS_rfl : ∀ a : D, eqS a a = true
  | .non => by simp [eqS]
  | .bl _ => by simp [eqS]
  | .int _ => by simp [eqS]
  | .str _ => by simp [eqS]
  | .ob _ => by simp [eqS]
  | .tup a => by simp [eqS, eqSL_rfl a]
  | .lst a => by simp [eqS, eqSL_rfl a]
  | .scr a => by simp [eqS, eqSL_rfl a]
theorem eqSL_rfl : ∀ a : List D, eqSL a a = true
  | [] => by simp [eqSL]
  | x :: xs => by simp [eqSL, eqS_rfl x, eqSL_rfl xs]
end
/-- items that are walked; the cells that must hold still meanwhile -/
structure Src where
  items : List D
  still : List (Nat × List D)
def stillOk : List (Nat × List D) → Sto → Bool
  | [], _ => true
  | (l, ds) :: r, O => (match O[l]? with | some (.lst xs) => eqSL xs ds | _ => false) && stillOk r O
def ItOk (C : Ctx) (g : G) (s : Src) (J : It) : Prop := ∀ g' H' O' (i : Nat), GLe g g' → RepO C g' H' O' → stillOk s.still O' = true →
  (∀ d, s.items[i]? = some d → J.go i H' ∧ ∀ x H2, J.yld i H' x H2 → ∃ g2, Ext g' H' g2 H2 ∧ RepO C g2 H2 O' ∧ Shr C.K g2 d x) ∧ (s.items.length ≤ i → J.stop i H')
instance : Rel Src It := ⟨ItOk, fun e h g' H' O' i e' => h g' H' O' i (e.trans e')⟩
structure DI (C : Ctx) (X : Cx) (W : WX) (tg iter : Expr) (f : Rho → Sto → Res Src) : Prop where
  ex : ∃ wi, PI X tg iter wi ∧ Sat C W wi f
theorem PI.or {tg iter : Expr} {w w' : TI} (h : PI X tg iter w) (h' : PI X tg iter w') : PI X tg iter (fun σ H R => w σ H R ∨ w' σ H R) :=
  ⟨fun pins s σ H R I q => q.elim (h.run pins s σ H R I) (h'.run pins s σ H R I)⟩
/-- a sequence, a text -/
def srcD (d : D) (O : Sto) : Res Src := match d with
  | .str x => .ok ⟨x.map fun c => .str [c], []⟩ O
  | .tup ds => .ok ⟨ds, []⟩ O
  | .lst ds => .ok ⟨ds, []⟩ O
  | .scr ds => .ok ⟨ds, []⟩ O
  | .ob l => match O[l]? with | some (.lst ds) => .ok ⟨ds, [(l, ds)]⟩ O | _ => .bad
  | _ => .bad
def seqI (f : DE0) : Rho → Sto → Res Src := fun r O => (f r O).bind srcD
theorem itl_of {g : G} {a : Addr} {ds : List D} {vs : List V} {st : List (Nat × List D)} (h1 : ∀ g' H' O', GLe g g' → RepO C g' H' O' → stillOk st O' = true → ∃ vs, SqL C.K H' a vs ∧ ShrL C.K g' ds vs) : ItOk C g ⟨ds, st⟩ (Itl C.K a) := by
  intro g' H' O' i le R hs
  obtain ⟨vs, q1, h2⟩ := h1 g' H' O' le R hs
  refine ⟨fun d e => ?_, fun hl => ⟨vs, q1, by rw [shrL_len h2]; exact hl⟩⟩
  obtain ⟨v, e1, e2⟩ := shrL_get h2 e
  refine ⟨⟨vs, v, q1, e1⟩, fun x H2 y => ?_⟩
  obtain ⟨rfl, y⟩ := y
  have := y vs q1
  rw [e1] at this
  cases this
  exact ⟨g', Ext.refl R, R, e2⟩
theorem itt_of {g : G} {a : Addr} {ds : List D} {vs : List V} {st : List (Nat × List D)} (h1 : SqT C.K g.F a vs) (h2 : ShrL C.K g ds vs) : ItOk C g ⟨ds, st⟩ (Itt C.K a) := by
  intro g' H' O' i le R hs
  have q1 := ex_t R.F (ex_t le.F h1)
  refine ⟨fun d e => ?_, fun hl => ⟨vs, q1, by rw [shrL_len h2]; exact hl⟩⟩
  obtain ⟨v, e1, e2⟩ := shrL_get h2 e
  refine ⟨⟨vs, v, q1, e1⟩, fun x H2 y => ?_⟩
  obtain ⟨rfl, y⟩ := y
  have := y vs q1
  rw [e1] at this
  cases this
  exact ⟨g', Ext.refl R, R, e2.mono le⟩
theorem its_of {g : G} {x : List Nat} {st : List (Nat × List D)} : ItOk C g ⟨x.map fun c => .str [c], st⟩ (Its ⟨x.toArray⟩) := by
  intro g' H' O' i le R hs
  refine ⟨fun d e => ?_, fun hl => by show (Array.size _) ≤ i; simpa using hl⟩
  rw [List.getElem?_map] at e
  cases q : x[i]? with
  | none => rw [q] at e; cases e
  | some c =>
    rw [q] at e
    cases e
    refine ⟨by show i < Array.size _; simpa using (List.getElem?_eq_some_iff.mp q).1, fun v H2 y => ?_⟩
    obtain ⟨rfl, c', e1, rfl⟩ := y
    have : c' = c := by
      have e1' : x[i]? = some c' := by simpa using e1
      rw [q] at e1'; cases e1'; rfl
    subst this
    exact ⟨g', Ext.refl R, R, rfl⟩
theorem stillOk_at {l : Nat} {ds : List D} {O : Sto} (h : stillOk [(l, ds)] O = true) : O[l]? = some (.lst ds) := by
  unfold stillOk at h
  simp only [Bool.and_eq_true] at h
  have h := h.1
  split at h
  · rename_i xs e; rw [e, eqSL_eq h]
  · cases h
theorem i_seq {tg : Expr} (hK : X.K = C.K) (he : DE C X W e fe) : DI C X W tg e (seqI fe) :=
  let ⟨_, p, s⟩ := he.ex
  ⟨_, PI.or (pi_list p) (PI.or (pi_tup p) (pi_str p)), fun g σ H r O R S Q h => by
    unfold seqI at h
    cases q : fe r O with
    | bad => rw [q] at h; exact h.elim
    | exc er O1 => exact .inl (s g σ H r O R S _ (by rw [q] at h ⊢; exact h))
    | ok d O1 =>
      rw [q] at h
      have h : Post C W σ g H (srcD d O1) Q := h
      unfold srcD at h
      split at h
      · refine .inr (.inr (ok_seq s R S q fun v g1 H1 e1 R1 S1 s1 => ?_))
        cases s1
        exact ⟨_, rfl, Post.fin R1 its_of (Post.shift e1 h)⟩
      · refine .inr (.inl (ok_seq s R S q fun v g1 H1 e1 R1 S1 s1 => ?_))
        simp only [Shr] at s1
        obtain ⟨a, vs, rfl, h2, h3⟩ := s1
        rw [hK]
        exact ⟨a, rfl, ⟨vs, ex_t R1.F h2⟩, Post.fin R1 (itt_of h2 h3) (Post.shift e1 h)⟩
      · refine .inl (ok_seq s R S q fun v g1 H1 e1 R1 S1 s1 => ?_)
        simp only [Shr] at s1
        obtain ⟨a, vs, rfl, h2, h3⟩ := s1
        rw [hK]
        exact ⟨a, rfl, ⟨vs, SqL.of (R1.F _ _ h2)⟩, Post.fin R1 (itl_of (vs := vs) fun g' H' O' le R' _ => ⟨vs, SqL.of (R'.F _ _ (le.F _ _ h2)), ShrL.mono le _ _ h3⟩) (Post.shift e1 h)⟩
      · refine .inl (ok_seq s R S q fun v g1 H1 e1 R1 S1 s1 => ?_)
        simp only [Shr] at s1
        obtain ⟨a, vs, rfl, h2, h3⟩ := s1
        rw [hK]
        exact ⟨a, rfl, ⟨vs, ex_l R1.F h2⟩, Post.fin R1 (itl_of (vs := vs) fun g' H' O' le R' _ => ⟨vs, ex_l R'.F (ex_l le.F h2), ShrL.mono le _ _ h3⟩) (Post.shift e1 h)⟩
      · rename_i l _
        split at h
        · rename_i ds ec
          refine .inl (ok_seq s R S q fun v g1 H1 e1 R1 S1 s1 => ?_)
          simp only [Shr] at s1
          obtain ⟨rfl, hl⟩ := s1
          obtain ⟨vs, h2, h3⟩ := R1.cell l _ ec
          rw [hK]
          refine ⟨_, rfl, ⟨vs, SqL.of h2⟩, Post.fin R1 (itl_of (vs := vs) fun g' H' O' le R' hs => ?_) (Post.shift e1 h)⟩
          obtain ⟨ws, h4, h5⟩ := R'.cell l _ (stillOk_at hs)
          rw [le.θ l hl] at h4
          exact ⟨ws, SqL.of h4, h5⟩
        · exact h.elim
      · exact h.elim⟩
/-- range -/
def rangeD (i j : Int) : List D := (List.range (j - i).toNat).map fun (k : Nat) => D.int (i + (k : Int))
theorem itr_of {g : G} {i j : Int} {st : List (Nat × List D)} : ItOk C g ⟨rangeD i j, st⟩ (Itr i (j - i).toNat) := by
  intro g' H' O' k le R hs
  unfold rangeD
  refine ⟨fun d e => ?_, fun hl => by show _ ≤ k; simpa using hl⟩
  rw [List.getElem?_map] at e
  cases q : (List.range (j - i).toNat)[k]? with
  | none => rw [q] at e; cases e
  | some c =>
    rw [q] at e
    cases e
    have hk := (List.getElem?_eq_some_iff.mp q)
    obtain ⟨h1, h2⟩ := hk
    rw [List.length_range] at h1
    rw [List.getElem_range] at h2
    subst h2
    refine ⟨h1, fun v H2 y => ?_⟩
    obtain ⟨rfl, rfl⟩ := y
    exact ⟨g', Ext.refl R, R, rfl⟩
def fits (i : Int) : Bool := decide (-4611686018427387904 ≤ i) && decide (i < 4611686018427387904)
def range1F (ds : List D) (O : Sto) : Res Src := match ds with | [.int j] => if fits j then .ok ⟨rangeD 0 j, []⟩ O else .bad | _ => .bad
def range2F (ds : List D) (O : Sto) : Res Src := match ds with | [.int i, .int j] => if fits i && fits j then .ok ⟨rangeD i j, []⟩ O else .bad | _ => .bad
def downD (i j : Int) : List D := (List.range (i - j).toNat).map fun (k : Nat) => D.int (i - (k : Int))
def range3F (ds : List D) (O : Sto) : Res Src := match ds with | [.int i, .int j, .int c] => if fits i && fits j && c == -1 then .ok ⟨downD i j, []⟩ O else .bad | _ => .bad
def callI (f : List D → Sto → Res Src) (fas : Rho → Sto → Res (List D)) : Rho → Sto → Res Src := fun r O => (fas r O).bind f
variable {x : Str} {p : Pos} {es : List Expr} {fas : Rho → Sto → Res (List D)} {tg : Expr}
theorem i_range1 {a : Expr} (hg : Gl X "range") (hm : X.mg "range" = none) (ha : DA C X W [a] fas) (hs : starEach [a] X.env = [(false, eval a X.env)] := by rfl) : DI C X W tg (.Call (.Name "range" p) [a] [] pos) (callI range1F fas) :=
  let ⟨_, pa, sa⟩ := ha.ex
  ⟨_, pi_range1 hg hm pa hs, fun g σ H r O R S Q h => sa.seq R S h fun ds O1 vs g1 H1 e1 R1 S1 s1 h1 => by
    unfold range1F at h1
    split at h1
    · rename_i j
      obtain ⟨v, rfl, sv⟩ := shrL_one s1
      cases sv
      split at h1
      · rename_i hf
        simp only [fits, Bool.and_eq_true, decide_eq_true_eq] at hf
        refine ⟨j, rfl, by have := hf.1; omega, by have := hf.2; omega, Post.fin R1 ?_ h1⟩
        have := itr_of (C := C) (g := g1) (i := 0) (j := j) (st := [])
        rw [Int.sub_zero] at this
        exact this
      · exact h1.elim
    · exact h1.elim⟩
theorem i_range2 {a b : Expr} (hg : Gl X "range") (hm : X.mg "range" = none) (ha : DA C X W [a, b] fas) (hs : starEach [a, b] X.env = [(false, eval a X.env), (false, eval b X.env)] := by rfl) (hs2 : starEach [b] X.env = [(false, eval b X.env)] := by rfl) :
    DI C X W tg (.Call (.Name "range" p) [a, b] [] pos) (callI range2F fas) :=
  let ⟨_, pa, sa⟩ := ha.ex
  ⟨_, pi_range2 hg hm pa hs hs2, fun g σ H r O R S Q h => sa.seq R S h fun ds O1 vs g1 H1 e1 R1 S1 s1 h1 => by
    unfold range2F at h1
    split at h1
    · rename_i i j
      obtain ⟨v, v', rfl, sv, sv'⟩ := shrL_two s1
      cases sv; cases sv'
      split at h1
      · rename_i hf
        simp only [fits, Bool.and_eq_true, decide_eq_true_eq] at hf
        exact ⟨i, j, rfl, ⟨by have := hf.1.1; omega, by have := hf.1.2; omega, by have := hf.2.1; omega, by have := hf.2.2; omega⟩, Post.fin R1 itr_of h1⟩
      · exact h1.elim
    · exact h1.elim⟩
theorem itc_of {g : G} {i j : Int} {st : List (Nat × List D)} : ItOk C g ⟨downD i j, st⟩ (Itc i (-1) (i - j).toNat) := by
  intro g' H' O' k le R hs
  unfold downD
  refine ⟨fun d e => ?_, fun hl => by show _ ≤ k; simpa using hl⟩
  rw [List.getElem?_map] at e
  cases q : (List.range (i - j).toNat)[k]? with
  | none => rw [q] at e; cases e
  | some c =>
    rw [q] at e
    cases e
    have hk := (List.getElem?_eq_some_iff.mp q)
    obtain ⟨h1, h2⟩ := hk
    rw [List.length_range] at h1
    rw [List.getElem_range] at h2
    subst h2
    refine ⟨h1, fun v H2 y => ?_⟩
    obtain ⟨rfl, rfl⟩ := y
    refine ⟨g', Ext.refl R, R, ?_⟩
    show V.int _ = V.int _
    congr 1
    omega
theorem shrL_three {K : PySem.W.Frag} {g : G} {d d' d'' : D} {vs : List V} (h : ShrL K g [d, d', d''] vs) : ∃ v v' v'', vs = [v, v', v''] ∧ Shr K g d v ∧ Shr K g d' v' ∧ Shr K g d'' v'' := by
  simp only [ShrL] at h
  obtain ⟨v, r, rfl, h2, w, r', rfl, h3, u, r'', rfl, h4, rfl⟩ := h
  exact ⟨v, w, u, rfl, h2, h3, h4⟩
theorem i_range3 {a b c : Expr} (hg : Gl X "range") (hm : X.mg "range" = none) (ha : DA C X W [a, b, c] fas) (hs : starEach [a, b, c] X.env = (false, eval a X.env) :: starEach [b, c] X.env := by rfl) (hpl : (backTo pos (starEach [b, c] X.env)).any (·.1) = false := by rfl) :
    DI C X W tg (.Call (.Name "range" p) [a, b, c] [] pos) (callI range3F fas) :=
  let ⟨_, pa, sa⟩ := ha.ex
  ⟨_, pi_range3 hg hm pa hs hpl, fun g σ H r O R S Q h => sa.seq R S h fun ds O1 vs g1 H1 e1 R1 S1 s1 h1 => by
    unfold range3F at h1
    split at h1
    · rename_i i j c
      obtain ⟨v, v', v'', rfl, sv, sv', sv''⟩ := shrL_three s1
      cases sv; cases sv'; cases sv''
      split at h1
      · rename_i hf
        simp only [fits, Bool.and_eq_true, decide_eq_true_eq, beq_iff_eq] at hf
        obtain ⟨⟨f1, f2⟩, rfl⟩ := hf
        exact ⟨i, j, -1, _, rfl, RgC.neg (by have := f1.1; omega) (by have := f1.2; omega) (by have := f2.1; omega) (by have := f2.2; omega), Post.fin R1 itc_of h1⟩
      · exact h1.elim
    · exact h1.elim⟩
/-! ### for -/
def forL (t : TG0) (b : DS0) (st : List (Nat × List D)) : List D → Rho → Sto → SR
  | [], r, O => if stillOk st O then .nx r O else .bad
  | d :: ds, r, O => if stillOk st O then (match t d r O with
      | none => .bad
      | some (r1, O1) => match b r1 O1 with
        | .nx r2 O2 => forL t b st ds r2 O2 | .ct r2 O2 => forL t b st ds r2 O2 | .bk r2 O2 => .nx r2 O2 | .ret d O2 => .ret d O2 | .exc e r2 O2 => .exc e r2 O2 | .bad => .bad) else .bad
def forS (src : Rho → Sto → Res Src) (t : TG0) (b : DS0) : DS0 := fun r O => (src r O).bindS r fun s O1 => forL t b s.still s.items r O1
theorem s_for {iter : Expr} {body : List Stmt} {src : Rho → Sto → Res Src} {own : List Nat} {t : TG0} (hp : PassesOwn (model X.prog X.w) X.A X.env X.xe) (hc : X.calm = true) (hi : DI C X W tg iter src) (hg : DG C X tg own t) (hb : DSs C X W body f) (hs : ∀ x, foldedSetIterable iter X.env x = pure x := by intro _; rfl) :
    DS C X W (.For tg iter body [] pos) (forS src t f) :=
  let ⟨_, p, s⟩ := hi.ex; let ⟨_, q, u⟩ := hg.ex; let ⟨_, pb, sb⟩ := hb.ex
  ⟨_, ps_for hp hc p q pb (hs := hs), fun g0 σ0 H0 r0 O0 R0 S0 E h0 => s.seqS R0 S0 h0 fun sr O1 J g1 H1 e1 R1 S1 j1 h1 => by
    have j1 : ItOk C g1 sr J := j1
    refine ⟨fun i m σ H => m = sr.items.length - i ∧ i ≤ sr.items.length ∧ ∃ g r O, GLe g1 g ∧ RepO C g H O ∧ RepS C g σ r ∧ PostS C W g H (forL t f sr.still (sr.items.drop i) r O) E, ⟨_, rfl, Nat.zero_le _, g1, r0, O1, GLe.refl _, R1, S1, h1⟩, ?_⟩
    rintro i m σ H ⟨rfl, hi, g, r, O, le, R, S, h⟩
    by_cases hlt : i < sr.items.length
    · obtain ⟨d, hd⟩ : ∃ d, sr.items[i]? = some d := ⟨_, List.getElem?_eq_getElem hlt⟩
      have hdrop : sr.items.drop i = d :: sr.items.drop (i + 1) := by
        rw [List.drop_eq_getElem_cons hlt]
        congr 1
        rw [List.getElem?_eq_getElem hlt] at hd
        exact Option.some.inj hd
      rw [hdrop] at h
      unfold forL at h
      split at h
      · rename_i hst
        obtain ⟨k1, _⟩ := j1 g H O i le R hst
        obtain ⟨k1, k2⟩ := k1 d hd
        refine .inr ⟨k1, fun σ' H' => ∃ g r O, GLe g1 g ∧ RepO C g H' O ∧ RepS C g σ' r ∧ PostS C W g H' (forL t f sr.still (sr.items.drop (i + 1)) r O) E, fun σ' H' hh => ⟨_, ?_, rfl, hlt, hh⟩, fun x H2 y => ?_⟩
        · omega
        obtain ⟨g2, e2, R2, s2⟩ := k2 x H2 y
        refine u g2 σ H2 r O R2 (S.mono e2.le) d x s2 _ ?_
        cases z : t d r O with
        | none => rw [z] at h; exact h.elim
        | some y =>
          obtain ⟨r1, O3⟩ := y
          rw [z] at h
          intro σ3 g3 H3 e3 R3 S3 _
          refine sb g3 σ3 H3 r1 O3 R3 S3 _ ?_
          have h := PostS.shift (e2.trans e3) h
          cases z2 : f r1 O3 with
          | nx r2 O2 => simp only [z2] at h; exact fun σ4 g4 H4 e4 R4 S4 => ⟨g4, r2, O2, le.trans (e2.le.trans (e3.le.trans e4.le)), R4, S4, PostS.shift e4 h⟩
          | ct r2 O2 => simp only [z2] at h; exact fun σ4 g4 H4 e4 R4 S4 => ⟨g4, r2, O2, le.trans (e2.le.trans (e3.le.trans e4.le)), R4, S4, PostS.shift e4 h⟩
          | bk r2 O2 => simp only [z2] at h; exact h
          | ret d O2 => simp only [z2] at h; exact h
          | exc e r2 O2 => simp only [z2] at h; exact h
          | bad => simp only [z2] at h; exact h
      · exact h.elim
    · have hi' : i = sr.items.length := by omega
      subst hi'
      rw [List.drop_length] at h
      unfold forL at h
      split at h
      · rename_i hst
        obtain ⟨_, k2⟩ := j1 g H O _ le R hst
        exact .inl ⟨k2 (Nat.le_refl _), h σ g H (Ext.refl R) R S⟩
      · exact h.elim⟩
/-! ### list comprehensions -/
def lcL (t : TG0) (c : Rho → Sto → Res Bool) (el : DE0) (st : List (Nat × List D)) (r : Rho) : List D → List D → Sto → Res (List D)
  | [], acc, O => if stillOk st O then .ok acc O else .bad
  | d :: ds, acc, O => if stillOk st O then (match t d r O with
      | none => .bad
      | some (r1, O1) => match c r1 O1 with
        | .ok true O2 => (match el r1 O2 with
          | .ok y O3 => if acc.length < sizeLine then lcL t c el st r ds (acc ++ [y]) O3 else .bad
          | _ => .bad)
        | .ok false O2 => lcL t c el st r ds acc O2
        | _ => .bad) else .bad
def yesT : Rho → Sto → Res Bool := fun _ O => .ok true O
def lcE (m : Bool) (src : Rho → Sto → Res Src) (t : TG0) (c : Rho → Sto → Res Bool) (el : DE0) (own : List Nat) : DE0 := fun r O => (src r O).bind fun s O1 => (lcL t c el s.still (wipeR r own) s.items [] O1).bind fun ds O2 => mkL m ds O2
structure DTs (C : Ctx) (X : Cx) (W : WX) (ifs : List Expr) (f : Rho → Sto → Res Bool) : Prop where
  ex : ∃ te, PTs X ifs te ∧ Sat C W te f
theorem ts_nil : DTs C X W [] yesT := ⟨_, pts_nil, fun g σ H r O R S Q h => Post.fin R rfl h⟩
theorem ts_one (h : DT C X W c ft) : DTs C X W [c] ft := let ⟨_, p, s⟩ := h.ex; ⟨_, pts_one p, s⟩
/-- a fresh thing that is no cell, whatever stands there -/
theorem Ext.over {g g' : G} {H H' : Hp} (e : Ext g H g' H') {p : Addr} {o : HO} (hp : H p = none) (hc : ∀ l, l < g.n → g.θ l ≠ p) : Ext g H g' (upd H' p o) :=
  ⟨e.le, fun a u q n => by rw [upd_ne (ne_of_none q hp)]; exact e.keep a u q n, e.new, fun l hl => by rw [upd_ne (hc l hl)]; exact e.trk l hl, e.frz⟩
theorem RepO.over {g : G} {H : Hp} {O : Sto} (R : RepO C g H O) {p : Addr} {o : HO} (hF : g.F p = none) (hc : ∀ l, l < g.n → g.θ l ≠ p) : RepO C g (upd H p o) O :=
  ⟨R.n, fun a u q => by rw [upd_ne fun z => by rw [z, hF] at q; cases q]; exact R.F a u q, fun l c q => (R.cell l c q).heap (by
    have hl : l < g.n := by rw [R.n]; exact (List.getElem?_eq_some_iff.mp q).1
    rw [upd_ne (hc l hl)]), R.fresh, R.inj⟩
theorem RepO.adopt {g : G} {H : Hp} {O : Sto} (R : RepO C g H O) {p : Addr} {o : HO} (hF : g.F p = none) (hH : H p = some o) (hc : ∀ l, l < g.n → g.θ l ≠ p) : RepO C (g.frz p o) H O := by
  have le := GLe.frz (g := g) (o := o) hF
  refine ⟨R.n, fun a u e => ?_, fun l c e => (R.cell l c e).mono le, fun l hl => ?_, R.inj⟩
  · by_cases q : a = p
    · subst q
      have e' : upd g.F a o a = some u := e
      rw [upd_same] at e'; rw [hH]; exact e'
    · have e' : upd g.F p o a = some u := e
      rw [upd_ne q] at e'
      exact R.F a u e'
  · show upd g.F p o (g.θ l) = none
    rw [upd_ne (hc l hl)]; exact R.fresh l hl
theorem Ext.adopt {g g' : G} {H H' : Hp} (e : Ext g H g' H') {p : Addr} {o : HO} (hp : H p = none) (hF : g'.F p = none) : Ext g H (g'.frz p o) H' :=
  ⟨e.le.trans (GLe.frz hF), e.keep, e.new, e.trk, fun a u q => by
    by_cases z : a = p
    · subst z; exact .inr hp
    · have q' : upd g'.F p o a = some u := q
      rw [upd_ne z] at q'
      exact e.frz a u q'⟩
theorem RepO.adoptC {g : G} {H : Hp} {O : Sto} (R : RepO C g H O) {p : Addr} {c : Cell} (hF : g.F p = none) (hc : ∀ l, l < g.n → g.θ l ≠ p) (new : CellOk C (g.add p) H p c) : RepO C (g.add p) H (O ++ [c]) := by
  refine ⟨by show g.n + 1 = _; simp [R.n], R.F, fun l c' e => ?_, fun l hl => ?_, fun i j hi hj e => ?_⟩
  · by_cases q : l < g.n
    · rw [List.getElem?_append_left (by rw [← R.n]; exact q)] at e
      rw [G.add_ne q]
      exact (R.cell l c' e).mono GLe.add
    · have hl : l < (O ++ [c]).length := (List.getElem?_eq_some_iff.mp e).1
      simp at hl
      have el : l = g.n := by have := R.n; omega
      subst el
      rw [G.add_at]
      rw [R.n, List.getElem?_concat_length] at e
      cases e
      exact new
  · by_cases q : l < g.n
    · rw [G.add_ne q]; exact R.fresh l q
    · have hl : l < g.n + 1 := hl
      have el : l = g.n := by omega
      subst el
      rw [G.add_at]
      exact hF
  · have hi : i < g.n + 1 := hi
    have hj : j < g.n + 1 := hj
    by_cases qi : i < g.n
    · by_cases qj : j < g.n
      · rw [G.add_ne qi, G.add_ne qj] at e
        exact R.inj i j qi qj e
      · have ej : j = g.n := by omega
        subst ej
        rw [G.add_ne qi, G.add_at] at e
        exact absurd e (hc i qi)
    · have ei : i = g.n := by omega
      subst ei
      by_cases qj : j < g.n
      · rw [G.add_ne qj, G.add_at] at e
        exact absurd e.symm (hc j qj)
      · omega
theorem Ext.adoptC {g g' : G} {H H' : Hp} (e : Ext g H g' H') {p : Addr} (hp : H p = none) : Ext g H (g'.add p) H' :=
  ⟨e.le.trans GLe.add, e.keep, fun l h h' => by
    by_cases q : l < g'.n
    · rw [G.add_ne q]; exact e.new l h q
    · have h' : l < g'.n + 1 := h'
      have el : l = g'.n := by omega
      subst el
      rw [G.add_at]; exact hp, e.trk, e.frz⟩
/-- what stands at q0: the list so far -/
structure LcAt (C : Ctx) (g1 : G) (H1 : Hp) (q0 : Addr) (g : G) (H : Hp) (O : Sto) (acc : List D) : Prop where
  ext : Ext g1 H1 g H
  rep : RepO C g H O
  F : g.F q0 = none
  c : ∀ l, l < g.n → g.θ l ≠ q0
  at' : ∃ vs, H q0 = some (.lst vs) ∧ ShrL C.K g acc vs
theorem LcAt.next {g1 g g' : G} {H1 H H' : Hp} {q0 : Addr} {O O' : Sto} {acc : List D} (L : LcAt C g1 H1 q0 g H O acc) (e : Ext g H g' H') (R : RepO C g' H' O') : LcAt C g1 H1 q0 g' H' O' acc := by
  obtain ⟨vs, h1, h2⟩ := L.at'
  have hD : H q0 ≠ none := by rw [h1]; exact fun z => nomatch z
  refine ⟨L.ext.trans e, R, ?_, fun l hl z => ?_, vs, e.keep q0 _ h1 L.c, ShrL.mono e.le _ _ h2⟩
  · cases q : g'.F q0 with
    | none => rfl
    | some o =>
      rcases e.frz q0 o q with z | z
      · rw [L.F] at z; cases z
      · exact absurd z hD
  · by_cases q : l < g.n
    · rw [e.le.θ l q] at z; exact L.c l q z
    · have := e.new l (Nat.le_of_not_lt q) hl
      rw [z] at this
      exact hD this
theorem LcAt.push {g1 g : G} {H1 H : Hp} {q0 : Addr} {O : Sto} {acc : List D} {d : D} {v : V} {vs : List V} (L : LcAt C g1 H1 q0 g H O acc) (hp : H1 q0 = none) (hc1 : ∀ l, l < g1.n → g1.θ l ≠ q0) (h : H q0 = some (.lst vs)) (sv : ShrL C.K g acc vs) (s : Shr C.K g d v) :
    LcAt C g1 H1 q0 g (upd H q0 (.lst (vs ++ [v]))) O (acc ++ [d]) := by
  refine ⟨Ext.over L.ext hp hc1, RepO.over L.rep L.F L.c, L.F, L.c, vs ++ [v], upd_same, shrL_append sv ?_⟩
  simp only [ShrL]
  exact ⟨v, [], rfl, s, rfl⟩
theorem wipe_out' {i : Nat} : ∀ (ws : List Nat) (σ : L2.St), i ∉ ws → wipe (σ.set i none) ws = (wipe σ ws).set i none
  | [], _, _ => rfl
  | a :: ws, σ, hk => by
    simp only [List.mem_cons, not_or] at hk
    show (wipe (σ.set i none) ws).set a none = ((wipe σ ws).set a none).set i none
    rw [wipe_out' ws σ hk.2, List.set_comm _ _ hk.1]
theorem wipe_idem : ∀ (ws : List Nat) (σ : L2.St), wipe (wipe σ ws) ws = wipe σ ws
  | [], _ => rfl
  | k :: ks, σ => by
    show (wipe ((wipe σ ks).set k none) ks).set k none = (wipe σ ks).set k none
    by_cases e : k ∈ ks
    · rw [set_wipe e, wipe_idem ks]
    · rw [wipe_out' ks _ e, wipe_idem ks, List.set_set]
theorem lc_sat {wi : TI} {src : Rho → Sto → Res Src} {tgr : TG} {t : TG0} {tt : TT} {te : TE} {cf : Rho → Sto → Res Bool} {el : DE0} {own own' : List Nat} {m : Bool}
    (s : Sat C W wi src) (u : SatG C own' tgr t) (hown : ∀ i ∈ own', i ∈ own) (sc : Sat C (fun _ _ _ _ => False) tt cf) (se : Sat C (fun _ _ _ _ => False) te el) : Sat C W (tLc wi tgr tt te own) (lcE m src t cf el own) := fun g0 σ0 H0 r0 O0 R0 S0 Q h0 =>
  s.seq R0 S0 h0 fun sr O1 J g1 H1 e1 R1 S1 j1 h1 => by
    have j1 : ItOk C g1 sr J := j1
    intro D hD
    have hc1 : ∀ l, l < g1.n → g1.θ l ≠ D := fun l hl => R1.ne hD hl
    have Sw := S1.wipe own
    refine ⟨fun i m' H => m' = sr.items.length - i ∧ i ≤ sr.items.length ∧ ∃ g O acc, LcAt C g1 H1 D g H O acc ∧ Post C W σ0 g1 H1 ((lcL t cf el sr.still (wipeR r0 own) (sr.items.drop i) acc O).bind fun ds O2 => mkL m ds O2) Q,
      ⟨_, rfl, Nat.zero_le _, g1, O1, [], ⟨Ext.over (Ext.refl R1) hD hc1, RepO.over R1 (R1.Fnone hD) hc1, R1.Fnone hD, hc1, [], upd_same, by simp [ShrL]⟩, h1⟩, ?_⟩
    rintro i m' H ⟨rfl, hi, g, O, acc, L, h⟩
    by_cases hlt : i < sr.items.length
    · obtain ⟨d, hd⟩ : ∃ d, sr.items[i]? = some d := ⟨_, List.getElem?_eq_getElem hlt⟩
      have hdrop : sr.items.drop i = d :: sr.items.drop (i + 1) := by
        rw [List.drop_eq_getElem_cons hlt]
        congr 1
        rw [List.getElem?_eq_getElem hlt] at hd
        exact Option.some.inj hd
      rw [hdrop] at h
      unfold lcL at h
      split at h
      · rename_i hst
        obtain ⟨k1, _⟩ := j1 g H O i L.ext.le L.rep hst
        obtain ⟨k1, k2⟩ := k1 d hd
        refine .inr ⟨k1, fun H' => ∃ g O acc, LcAt C g1 H1 D g H' O acc ∧ Post C W σ0 g1 H1 ((lcL t cf el sr.still (wipeR r0 own) (sr.items.drop (i + 1)) acc O).bind fun ds O2 => mkL m ds O2) Q, fun H' hh => ⟨_, ?_, rfl, hlt, hh⟩, fun x H2 y => ?_⟩
        · omega
        obtain ⟨g2, e2, R2, s2⟩ := k2 x H2 y
        have L2 := L.next e2 R2
        refine u g2 _ H2 _ O R2 (Sw.mono (L2.ext.le)) d x s2 _ ?_
        cases z : t d (wipeR r0 own) O with
        | none => rw [z] at h; exact h.elim
        | some y =>
          obtain ⟨r1, O3⟩ := y
          rw [z] at h
          intro σ3 g3 H3 e3 R3 S3 w3
          refine ⟨?_, ?_⟩
          · rw [w3 own hown]
            exact wipe_idem own σ0
          have L3 := L2.next e3 R3
          refine sc g3 σ3 H3 r1 O3 R3 S3 _ ?_
          cases z2 : cf r1 O3 with
          | bad => simp only [z2] at h; exact h.elim
          | exc er O4 => simp only [z2] at h; exact h.elim
          | ok b O4 =>
            simp only [z2] at h
            intro b' g4 H4 e4 R4 sb
            cases sb
            have L4 := L3.next e4 R4
            cases b with
            | false => exact ⟨g4, O4, acc, L4, h⟩
            | true =>
              simp only at h
              rw [if_pos rfl]
              refine se g4 σ3 H4 r1 O4 R4 (S3.mono e4.le) _ ?_
              cases z3 : el r1 O4 with
              | bad => simp only [z3] at h; exact h.elim
              | exc er O5 => simp only [z3] at h; exact h.elim
              | ok y O5 =>
                simp only [z3] at h
                intro v g5 H5 e5 R5 s5
                have L5 := L4.next e5 R5
                obtain ⟨vs, a1, a2⟩ := L5.at'
                split at h
                · rename_i hz
                  exact ⟨vs, a1, by rw [shrL_len a2]; exact hz, g5, O5, acc ++ [y], L5.push hD hc1 a1 a2 s5, h⟩
                · exact h.elim
      · exact h.elim
    · have hi' : i = sr.items.length := by omega
      subst hi'
      rw [List.drop_length] at h
      unfold lcL at h
      split at h
      · rename_i hst
        obtain ⟨_, k2⟩ := j1 g H O _ L.ext.le L.rep hst
        refine .inl ⟨k2 (Nat.le_refl _), ?_⟩
        have h : Post C W σ0 g1 H1 (mkL m acc O) Q := h
        obtain ⟨vs, a1, a2⟩ := L.at'
        cases m with
        | false =>
          refine h _ (g.frz D (.lst vs)) H (L.ext.adopt hD L.F) (L.rep.adopt L.F a1 L.c) ?_
          show Shr _ _ (.lst acc) _
          simp only [Shr]
          exact ⟨D, vs, rfl, upd_same, ShrL.mono (GLe.frz L.F) _ _ a2⟩
        | true =>
          refine h _ (g.add D) H (L.ext.adoptC hD) (L.rep.adoptC L.F L.c ⟨vs, a1, ShrL.mono GLe.add _ _ a2⟩) ?_
          show Shr _ _ (.ob O.length) _
          simp only [Shr]
          rw [← L.rep.n, G.add_at]
          exact ⟨rfl, Nat.lt_succ_self _⟩
      · exact h.elim
end
end Dn
set_option Elab.async false
set_option linter.all false
set_option maxRecDepth 100000
set_option maxHeartbeats 2000000
namespace Dn
open PySem PySem.Spec PyProof.Rows L2
section
variable {C : Ctx} {X : Cx} {W : WX}
/-- no error is wished for -/
abbrev W0 : WX := fun _ _ _ _ => False
variable {elt tg iter e o value : Expr} {ifs : List Expr} {scope : Scope} {pos pos' spos : Pos} {src : Rho → Sto → Res Src} {t : TG0} {cf ft : Rho → Sto → Res Bool} {el fe fo fv : DE0}
/-- the weakest reading of a pure function -/
def canon {α β : Type} [Rel α β] (C : Ctx) (W : WX) (f : Rho → Sto → Res α) : L2.St → Hp → (β → Hp → Prop) → Prop := fun σ H Q => ∃ g r O, RepO C g H O ∧ RepS C g σ r ∧ Post C W σ g H (f r O) Q
theorem canon_sat {α β : Type} [Rel α β] {f : Rho → Sto → Res α} : Sat C W (canon C W f) f := fun g σ H r O R S Q h => ⟨g, r, O, R, S, h⟩
theorem DE.canon {f : DE0} (h : DE C X W e f) : PE X e (canon C W f) := by
  obtain ⟨te, p, s⟩ := h.ex
  exact ⟨fun pins st σ H Q I ⟨g, r, O, R, S, q⟩ => p.run pins st σ H Q I (s g σ H r O R S Q q)⟩
theorem DTs.canon {f : Rho → Sto → Res Bool} (h : DTs C X W ifs f) : PTs X ifs (canon C W f) := by
  obtain ⟨te, p, s⟩ := h.ex
  exact ⟨fun pins st σ H Q I ⟨g, r, O, R, S, q⟩ => p.run pins st σ H Q I (s g σ H r O R S Q q)⟩
def canonG (C : Ctx) (own : List Nat) (f : TG0) : TG := fun v σ H Q => ∃ g r O d, RepO C g H O ∧ RepS C g σ r ∧ Shr C.K g d v ∧ PostG C own σ g H (f d r O) Q
theorem canonG_sat {own : List Nat} {f : TG0} : SatG C own (canonG C own f) f := fun g σ H r O R S d v s Q h => ⟨g, r, O, d, R, S, s, h⟩
theorem DG.canon {own : List Nat} {f : TG0} (h : DG C X tg own f) : PG X tg (canonG C own f) := by
  obtain ⟨t, p, s⟩ := h.ex
  exact ⟨fun pins st σ H v u Q I rv ⟨g, r, O, d, R, S, sv, q⟩ => p.run pins st σ H v u Q I rv (s g σ H r O R S d v sv Q q)⟩
/-- [elt for tg in iter if ..]; own: the block's names and slots -/
theorem d_lc (m : Bool) (own : List (Str × Nat)) {own' : List Nat} (hc : X.calm = true) (hN : X.N.Nodup) (hi : DI C X W tg iter src) (ok : blkC X.N X.env.scope scope own = true) (hown : own'.all (fun i => (own.map (·.2)).contains i) = true)
    (hg : ∀ (s : Shared) (H : Hp) (A : Addr) (cl : List (Str × Addr)) (fp : List Addr), DG C (X.blk s H scope (compEnvC scope cl A X.env) fp) tg own' t)
    (ht : ∀ (s : Shared) (H : Hp) (A : Addr) (cl : List (Str × Addr)) (fp : List Addr), DTs C (X.blk s H scope (compEnvC scope cl A X.env) fp) W0 ifs cf)
    (he : ∀ (s : Shared) (H : Hp) (A : Addr) (cl : List (Str × Addr)) (fp : List Addr), DE C (X.blk s H scope (compEnvC scope cl A X.env) fp) W0 elt el)
    (hs : ∀ x, foldedSetIterable iter X.env x = pure x := by intro _; rfl) : DE C X W (.ListComp elt [⟨tg, iter, ifs, 0⟩] scope pos) (lcE m src t cf el (own.map (·.2))) := by
  obtain ⟨wi, pi, si⟩ := hi.ex
  exact ⟨_, pe_lc hc hN pi (blkOk_by ok) (fun s H A cl fp => (hg s H A cl fp).canon) (fun s H A cl fp => (ht s H A cl fp).canon) (fun s H A cl fp => (he s H A cl fp).canon) hs,
    lc_sat si canonG_sat (fun i hi => by simpa using List.all_eq_true.mp hown i hi) canon_sat canon_sat⟩
/-- name = [..] on one line -/
theorem s_setLc (m : Bool) (own : List (Str × Nat)) (i : Nat) {y : Str} {py : Pos} {own' : List Nat} (hc : X.calm = true) (hN : X.N.Nodup) (hi : DI C X W tg iter src) (ok : blkC X.N X.env.scope scope own = true) (hown : own'.all (fun i => (own.map (·.2)).contains i) = true)
    (hg : ∀ (s : Shared) (H : Hp) (A : Addr) (cl : List (Str × Addr)) (fp : List Addr), DG C (X.blk s H scope (compEnvC scope cl A X.env) fp) tg own' t)
    (ht : ∀ (s : Shared) (H : Hp) (A : Addr) (cl : List (Str × Addr)) (fp : List Addr), DTs C (X.blk s H scope (compEnvC scope cl A X.env) fp) W0 ifs cf)
    (he : ∀ (s : Shared) (H : Hp) (A : Addr) (cl : List (Str × Addr)) (fp : List Addr), DE C (X.blk s H scope (compEnvC scope cl A X.env) fp) W0 elt el)
    (hsw : swapsWith (.ListComp elt [⟨tg, iter, ifs, 0⟩] scope pos) (some (.Name y py)) spos.line X.env = pure true)
    (hy : X.N[i]? = some y := by rfl) (hyl : X.env.scope.names.lookup y = some .local := by rfl) (hs : ∀ x, foldedSetIterable iter X.env x = pure x := by intro _; rfl) :
    DS C X W (.Assign [.Name y py] (.ListComp elt [⟨tg, iter, ifs, 0⟩] scope pos) spos) (setS i (lcE m src t cf el (own.map (·.2)))) := by
  obtain ⟨wi, pi, si⟩ := hi.ex
  exact ⟨_, ps_setLc hc hN hy hyl hsw pi (blkOk_by ok) (fun s H A cl fp => (hg s H A cl fp).canon) (fun s H A cl fp => (ht s H A cl fp).canon) (fun s H A cl fp => (he s H A cl fp).canon) hs,
    fun g σ H r O R S E h => Sat.seqS (lc_sat si canonG_sat (fun i hi => by simpa using List.all_eq_true.mp hown i hi) canon_sat canon_sat) R S h fun d O1 v g1 H1 e1 R1 S1 s1 h1 => h1 _ g1 H1 (Ext.refl R1) R1 (S1.set s1)⟩
/-! ### zip, enumerate -/
def zipD : List D → List D → List D
  | a :: as, b :: bs => .tup [a, b] :: zipD as bs
  | _, _ => []
theorem zipD_len : ∀ (as bs : List D), (zipD as bs).length = min as.length bs.length
  | [], _ => by simp [zipD]
  | _ :: _, [] => by simp [zipD]
  | a :: as, b :: bs => by simp [zipD, zipD_len as bs]
theorem zipD_get : ∀ {as bs : List D} {i : Nat} {d : D}, (zipD as bs)[i]? = some d → ∃ a b, as[i]? = some a ∧ bs[i]? = some b ∧ d = .tup [a, b]
  | [], _, _, _, h => by simp [zipD] at h
  | _ :: _, [], _, _, h => by simp [zipD] at h
  | a :: as, b :: bs, 0, d, h => by simp [zipD] at h; subst h; exact ⟨a, b, rfl, rfl, rfl⟩
  | a :: as, b :: bs, i + 1, d, h => by
    simp only [zipD, List.getElem?_cons_succ] at h
    obtain ⟨x, y, h1, h2, h3⟩ := zipD_get h
    exact ⟨x, y, by simpa using h1, by simpa using h2, h3⟩
def enumD (n : Nat) : List D → List D
  | [] => []
  | d :: ds => .tup [.int (n : Nat), d] :: enumD (n + 1) ds
theorem enumD_len : ∀ (n : Nat) (ds : List D), (enumD n ds).length = ds.length
  | _, [] => rfl
  | n, d :: ds => by simp [enumD, enumD_len]
theorem enumD_get : ∀ {n : Nat} {ds : List D} {i : Nat} {d : D}, (enumD n ds)[i]? = some d → ∃ a, ds[i]? = some a ∧ d = .tup [.int ((n + i : Nat) : Int), a]
  | _, [], _, _, h => by simp [enumD] at h
  | n, a :: ds, 0, d, h => by simp [enumD] at h; subst h; exact ⟨a, rfl, rfl⟩
  | n, a :: ds, i + 1, d, h => by
    simp only [enumD, List.getElem?_cons_succ] at h
    obtain ⟨x, h1, h2⟩ := enumD_get h
    exact ⟨x, by simpa using h1, by rw [h2, Nat.add_right_comm]; rfl⟩
/-- how a list that is read holds still -/
def stillD (d : D) (ds : List D) : List (Nat × List D) := match d with | .ob l => [(l, ds)] | _ => []
/-- a list stands as read, as long as it holds still -/
theorem still_list {g : G} {H : Hp} {O : Sto} {d : D} {v : V} {ds : List D} (R : RepO C g H O) (s : Shr C.K g d v) (h : listR d O = some ds) :
    ∃ a, v = .ref a ∧ ∀ g' H' O', GLe g g' → RepO C g' H' O' → stillOk (stillD d ds) O' = true → ∃ vs, SqL C.K H' a vs ∧ ShrL C.K g' ds vs := by
  unfold listR listS at h
  split at h
  · cases h
    simp only [Shr] at s
    obtain ⟨a, vs, rfl, h2, h3⟩ := s
    exact ⟨a, rfl, fun g' H' O' le R' _ => ⟨vs, ex_l R'.F (ex_l le.F h2), ShrL.mono le _ _ h3⟩⟩
  · split at h
    · cases h
      simp only [Shr] at s
      obtain ⟨a, vs, rfl, h2, h3⟩ := s
      exact ⟨a, rfl, fun g' H' O' le R' _ => ⟨vs, SqL.of (R'.F _ _ (le.F _ _ h2)), ShrL.mono le _ _ h3⟩⟩
    · rename_i l _
      simp only [Shr] at s
      obtain ⟨rfl, hl⟩ := s
      split at h
      · cases h
        refine ⟨_, rfl, fun g' H' O' le R' hs => ?_⟩
        obtain ⟨ws, h4, h5⟩ := R'.cell l _ (stillOk_at hs)
        rw [le.θ l hl] at h4
        exact ⟨ws, SqL.of h4, h5⟩
      · cases h
    · cases h
theorem stillOk_app {a b : List (Nat × List D)} {O : Sto} (h : stillOk (a ++ b) O = true) : stillOk a O = true ∧ stillOk b O = true := by
  induction a with
  | nil => exact ⟨rfl, h⟩
  | cons p a ih =>
    obtain ⟨l, ds⟩ := p
    simp only [List.cons_append, stillOk, Bool.and_eq_true] at h ⊢
    exact ⟨⟨h.1, (ih h.2).1⟩, (ih h.2).2⟩
def zipF (ds : List D) (O : Sto) : Res Src := match ds with
  | [.tup as, .tup bs] => .ok ⟨zipD as bs, []⟩ O
  | [a, b] => match listR a O, listR b O with | some as, some bs => .ok ⟨zipD as bs, stillD a as ++ stillD b bs⟩ O | _, _ => .bad
  | _ => .bad
theorem new_pair {g : G} {H : Hp} {O : Sto} {a b : D} {x y : V} (R : RepO C g H O) (sa : Shr C.K g a x) (sb : Shr C.K g b y) {T : Addr} (hT : H T = none) : ∃ g2, Ext g H g2 (upd H T (.tup [x, y])) ∧ RepO C g2 (upd H T (.tup [x, y])) O ∧ Shr C.K g2 (.tup [a, b]) (.ref T) := by
  refine ⟨g.frz T (.tup [x, y]), Ext.freeze R hT, R.frz hT, ?_⟩
  have le := GLe.frz (g := g) (o := .tup [x, y]) (R.Fnone hT)
  simp only [Shr, ShrL]
  exact ⟨T, [x, y], rfl, SqT.of upd_same, x, [y], rfl, sa.mono le, y, [], rfl, sb.mono le, rfl⟩
variable {p tpos : Pos} {elts es : List Expr} {kk : Nat} {fas : Rho → Sto → Res (List D)} {a b : Expr}
theorem i_zip (hK : X.K = C.K) (hg : Gl X "zip") (hm : X.mg "zip" = none) (ha : DA C X W [a, b] fas) (hs : starEach [a, b] X.env = (false, eval a X.env) :: starEach [b] X.env := by rfl) (hpl : (backTo pos (starEach [b] X.env)).any (·.1) = false := by rfl) :
    DI C X W (.Tuple elts kk tpos) (.Call (.Name "zip" p) [a, b] [] pos) (callI zipF fas) :=
  let ⟨_, pa, sa⟩ := ha.ex
  ⟨_, RZ.pi_zipA hg hm pa hs hpl, fun g σ H r O R S Q h => sa.seq R S h fun ds O1 vs g1 H1 e1 R1 S1 s1 h1 => by
    unfold zipF at h1
    rw [hK]
    split at h1
    · rename_i as bs
      obtain ⟨v, w, rfl, sv, sw⟩ := shrL_two s1
      simp only [Shr] at sv sw
      obtain ⟨x, xs, rfl, x2, x3⟩ := sv
      obtain ⟨y, ys, rfl, y2, y3⟩ := sw
      refine ⟨x, y, xs, ys, rfl, .inr ⟨ex_t R1.F x2, ex_t R1.F y2, Post.fin R1 ?_ h1⟩⟩
      intro g' H' O' i le R' hs
      have q1 := ex_t R'.F (ex_t le.F x2)
      have q2 := ex_t R'.F (ex_t le.F y2)
      refine ⟨fun d e => ?_, fun hl => ?_⟩
      · obtain ⟨da, db, ea, eb, rfl⟩ := zipD_get e
        obtain ⟨va, ha1, ha2⟩ := shrL_get x3 ea
        obtain ⟨vb, hb1, hb2⟩ := shrL_get y3 eb
        refine ⟨⟨xs, ys, va, vb, q1, q2, ha1, hb1⟩, fun z H2 k => ?_⟩
        obtain ⟨T, x', y', rfl, hT, rfl, k1, k2⟩ := k
        have k1 := k1 xs q1
        have k2 := k2 ys q2
        rw [ha1] at k1
        rw [hb1] at k2
        cases k1; cases k2
        exact new_pair R' (ha2.mono le) (hb2.mono le) hT
      · refine ⟨xs, ys, q1, q2, ?_⟩
        rw [zipD_len] at hl
        rw [shrL_len x3, shrL_len y3]
        omega
    · rename_i da db _
      obtain ⟨v, w, rfl, sv, sw⟩ := shrL_two s1
      split at h1
      · rename_i as bs ea eb
        obtain ⟨x, rfl, kx⟩ := still_list R1 sv ea
        obtain ⟨y, rfl, ky⟩ := still_list R1 sw eb
        obtain ⟨x', xs, ex, x2, x3⟩ := listR_of R1 sv ea
        obtain ⟨y', ys, ey, y2, y3⟩ := listR_of R1 sw eb
        cases ex; cases ey
        refine ⟨x, y, xs, ys, rfl, .inl ⟨x2, y2, Post.fin R1 ?_ h1⟩⟩
        intro g' H' O' i le R' hs
        obtain ⟨hs1, hs2⟩ := stillOk_app hs
        obtain ⟨xs', q1, x3'⟩ := kx g' H' O' le R' hs1
        obtain ⟨ys', q2, y3'⟩ := ky g' H' O' le R' hs2
        refine ⟨fun d e => ?_, fun hl => ?_⟩
        · obtain ⟨da, db, ea, eb, rfl⟩ := zipD_get e
          obtain ⟨va, ha1, ha2⟩ := shrL_get x3' ea
          obtain ⟨vb, hb1, hb2⟩ := shrL_get y3' eb
          refine ⟨⟨xs', ys', va, vb, q1, q2, ha1, hb1⟩, fun z H2 k => ?_⟩
          obtain ⟨T, x', y', rfl, hT, rfl, k1, k2⟩ := k
          have k1 := k1 xs' q1
          have k2 := k2 ys' q2
          rw [ha1] at k1
          rw [hb1] at k2
          cases k1; cases k2
          exact new_pair R' ha2 hb2 hT
        · refine ⟨xs', ys', q1, q2, ?_⟩
          rw [zipD_len] at hl
          rw [shrL_len x3', shrL_len y3']
          omega
      · exact h1.elim
    · exact h1.elim⟩
def enumF (ds : List D) (O : Sto) : Res Src := match ds with
  | [a] => match listR a O with | some as => .ok ⟨enumD 0 as, stillD a as⟩ O | none => .bad
  | _ => .bad
theorem i_enum (hK : X.K = C.K) (hg : Gl X "enumerate") (hm : X.mg "enumerate" = none) (ha : DA C X W [e] fas) (hs : starEach [e] X.env = [(false, eval e X.env)] := by rfl) :
    DI C X W (.Tuple elts kk tpos) (.Call (.Name "enumerate" p) [e] [] pos) (callI enumF fas) :=
  let ⟨_, pa, sa⟩ := ha.ex
  ⟨_, pi_enum hg hm pa hs, fun g σ H r O R S Q h => sa.seq R S h fun ds O1 vs g1 H1 e1 R1 S1 s1 h1 => by
    unfold enumF at h1
    rw [hK]
    split at h1
    · rename_i da
      obtain ⟨v, rfl, sv⟩ := shrL_one s1
      split at h1
      · rename_i as ea
        obtain ⟨x, rfl, kx⟩ := still_list R1 sv ea
        obtain ⟨x', xs, ex, x2, x3⟩ := listR_of R1 sv ea
        cases ex
        refine ⟨x, xs, rfl, x2, Post.fin R1 ?_ h1⟩
        intro g' H' O' i le R' hs
        obtain ⟨xs', q1, x3'⟩ := kx g' H' O' le R' hs
        refine ⟨fun d e => ?_, fun hl => ?_⟩
        · obtain ⟨da, ea, rfl⟩ := enumD_get e
          obtain ⟨va, ha1, ha2⟩ := shrL_get x3' ea
          refine ⟨⟨xs', va, q1, ha1⟩, fun z H2 k => ?_⟩
          obtain ⟨T, x', rfl, hT, rfl, k1⟩ := k
          have k1 := k1 xs' q1
          rw [ha1] at k1
          cases k1
          have := new_pair (a := .int ((0 + i : Nat) : Int)) R' (show Shr C.K g' _ (V.int (i : Nat)) from by rw [Nat.zero_add]; rfl) ha2 hT
          exact this
        · refine ⟨xs', q1, ?_⟩
          rw [enumD_len] at hl
          rw [shrL_len x3']
          exact hl
      · exact h1.elim
    · exact h1.elim⟩
/-! ### instances -/
/-- what the top says of the classes -/
structure Facts (C : Ctx) : Prop where
  cls : ∀ c A, C.cl c = some A → Cls C.K A
  noa : ∀ c A f, C.cl c = some A → C.att c f = true → NoAttr C.K A (C.fn f)
def putFD (f : Nat) (d : D) : List (Nat × D) → List (Nat × D)
  | [] => [(f, d)]
  | p :: r => if p.1 = f then (f, d) :: r else p :: putFD f d r
def getFD (f : Nat) : List (Nat × D) → Option D
  | [] => none
  | p :: r => if p.1 = f then some p.2 else getFD f r
theorem shrF_get {g : G} {f : Nat} (hf : f < C.fN) : ∀ {fs : List (Nat × D)} {vs : List (Str × V)} {d : D}, ShrF C g fs vs → getFD f fs = some d → ∃ v, vs.lookup (C.fn f) = some v ∧ Shr C.K g d v
  | [], vs, d, h, e => by simp [getFD] at e
  | p :: fs, vs, d, ⟨v, r, h1, h2, h3, h4⟩, e => by
    subst h1
    unfold getFD at e
    split at e
    · rename_i q
      cases e
      refine ⟨v, ?_, h3⟩
      rw [q]
      simp [List.lookup]
    · rename_i q
      obtain ⟨w, k1, k2⟩ := shrF_get hf h4 e
      refine ⟨w, ?_, k2⟩
      have : (C.fn f == C.fn p.1) = false := by
        rw [beq_eq_false_iff_ne]
        exact fun z => q (C.finj _ _ hf h2 z).symm
      simp only [List.lookup, this]
      exact k1
theorem shrF_put {g : G} {f : Nat} {d : D} {v : V} (hf : f < C.fN) (s : Shr C.K g d v) : ∀ {fs : List (Nat × D)} {vs : List (Str × V)}, ShrF C g fs vs → ShrF C g (putFD f d fs) (putF (C.fn f) v vs)
  | [], vs, h => by
    simp only [ShrF] at h; subst h
    exact ⟨v, [], rfl, hf, s, rfl⟩
  | p :: fs, vs, ⟨w, r, h1, h2, h3, h4⟩ => by
    subst h1
    unfold putFD putF
    by_cases q : p.1 = f
    · rw [if_pos q, if_pos (by rw [q])]
      exact ⟨v, r, by rw [q], hf, s, h4⟩
    · rw [if_neg q, if_neg fun z => q (C.finj _ _ h2 hf z)]
      exact ⟨w, _, rfl, h2, h3, shrF_put hf s h4⟩
theorem shrF_len {g : G} : ∀ {fs : List (Nat × D)} {vs : List (Str × V)}, ShrF C g fs vs → vs.length = fs.length
  | [], vs, h => by simp only [ShrF] at h; subst h; rfl
  | p :: fs, vs, ⟨w, r, h1, h2, h3, h4⟩ => by subst h1; simp [shrF_len h4]
theorem shrF_none {g : G} {m : Str} (hm : ∀ i, i < C.fN → C.fn i ≠ m) : ∀ {fs : List (Nat × D)} {vs : List (Str × V)}, ShrF C g fs vs → vs.lookup m = none
  | [], vs, h => by simp only [ShrF] at h; subst h; rfl
  | p :: fs, vs, ⟨w, r, h1, h2, h3, h4⟩ => by
    subst h1
    have : (m == C.fn p.1) = false := by
      rw [beq_eq_false_iff_ne]
      exact fun z => hm _ h2 z.symm
    simp only [List.lookup, this]
    exact shrF_none hm h4
def fldE (att : Nat → Nat → Bool) (f : Nat) (fo : DE0) : DE0 := fun r O => (fo r O).bind fun d O1 => match d with
  | .ob l => (match O1[l]? with
    | some (.ins c fs) => if att c f then (match getFD f fs with | some d => .ok d O1 | none => .bad) else .bad
    | _ => .bad)
  | _ => .bad
theorem d_fld (f : Nat) {x : Str} (hK : X.K = C.K) (Fa : Facts C) (hf : f < C.fN) (hx : C.fn f = x) (ho : DE C X W o fo) (hb : attributeBase o x X.env (eval o X.env) = eval o X.env := by rfl) : DE C X W (.Attribute o x pos) (fldE C.att f fo) :=
  let ⟨_, po, so⟩ := ho.ex
  ⟨_, pe_fld po hb, fun g σ H r O R S Q h => so.seq R S h fun d O1 v g1 H1 e1 R1 S1 s1 h1 => by
    split at h1
    · rename_i l
      simp only [Rel.sh, Shr] at s1
      obtain ⟨rfl, hl⟩ := s1
      split at h1
      · rename_i c fs ec
        split at h1
        · rename_i hatt
          split at h1
          · rename_i d' ed
            obtain ⟨A, dx, vs, h2, h3, h4⟩ := R1.cell l _ ec
            obtain ⟨w, h5, h6⟩ := shrF_get hf h4 ed
            rw [hK]
            exact ⟨_, A, dx, vs, w, rfl, h3, Fa.cls c A h2, hx ▸ Fa.noa c A f h2 hatt, hx ▸ h5, Post.fin R1 h6 h1⟩
          · exact h1.elim
        · exact h1.elim
      · exact h1.elim
    · exact h1.elim⟩
def fldS (att : Nat → Nat → Bool) (f : Nat) (fo fv : DE0) : DS0 := fun r O => (fv r O).bindS r fun d O1 => (fo r O1).bindS r fun o O2 => match o with
  | .ob l => (match O2[l]? with
    | some (.ins c fs) => if att c f && decide (fs.length < 1000) then .nx r (O2.set l (.ins c (putFD f d fs))) else .bad
    | _ => .bad)
  | _ => .bad
theorem s_fld (f : Nat) {x : Str} (hK : X.K = C.K) (Fa : Facts C) (hf : f < C.fN) (hx : C.fn f = x) (ho : DE C X W o fo) (hv : DE C X W value fv) (hs : swapsWith value (some (.Attribute o x pos')) pos.line X.env = pure false := by rfl) :
    DS C X W (.Assign [.Attribute o x pos'] value pos) (fldS C.att f fo fv) :=
  let ⟨_, po, so⟩ := ho.ex; let ⟨_, pv, sv⟩ := hv.ex
  ⟨_, ps_fld po pv hs, fun g σ H r O R S E h => sv.seqS R S h fun d O1 v g1 H1 e1 R1 S1 s1 h1 => so.seqS R1 S1 h1 fun o' O2 w g2 H2 e2 R2 S2 s2 h2 => by
    split at h2
    · rename_i l
      simp only [Rel.sh, Shr] at s2
      obtain ⟨rfl, hl⟩ := s2
      split at h2
      · rename_i c fs ec
        split at h2
        · rename_i hatt
          simp only [Bool.and_eq_true, decide_eq_true_eq] at hatt
          obtain ⟨A, dx, vs, h3, h4, h5⟩ := R2.cell l _ ec
          rw [hK]
          refine ⟨_, A, dx, vs, rfl, h4, Fa.cls c A h3, hx ▸ Fa.noa c A f h3 hatt.1, by rw [shrF_len h5]; exact hatt.2, ?_⟩
          refine h2 σ g2 _ (Ext.set R2 hl) (R2.set hl ⟨A, dx, _, h3, upd_same, ?_⟩) S2
          rw [← hx]
          exact shrF_put hf (s1.mono e2.le) h5
        · exact h2.elim
      · exact h2.elim
    · exact h2.elim⟩
/-! ### methods -/
structure GM (P : Program) (w : World) (K : PySem.W.Frag) (mg : Str → Option Value) (base : Heap) (C : Ctx) (c : Nat) (m : Str) (k np : Nat) (fn : Fn) : Prop where
  ex : ∃ A f fd ps, C.cl c = some A ∧ Meth K A m f ∧ ps.length = np ∧ FnOk P w K mg base (L2.CX P w) k f fd ps (spD C np fn) ∧ Binds K fd ps []
theorem GM.mono {P : Program} {w : World} {K : PySem.W.Frag} {mg : Str → Option Value} {base : Heap} {c : Nat} {m : Str} {j k np : Nat} {fn : Fn} (h : GM P w K mg base C c m j np fn) (hk : j ≤ k) : GM P w K mg base C c m k np fn := by
  obtain ⟨A, f, fd, ps, h1, h2, h3, h4, h5⟩ := h.ex
  exact ⟨A, f, fd, ps, h1, h2, h3, h4.mono hk, h5⟩
def methE (c np : Nat) (fn : Fn) (fo : DE0) (fas : Rho → Sto → Res (List D)) : DE0 := fun r O => (fo r O).bind fun d O1 => match d with
  | .ob l => (match O1[l]? with
    | some (.ins c' _) => if c' = c then (fas r O1).bind fun ds O2 => if ds.length + 1 = np then fn (.ob l :: ds) O2 else .bad else .bad
    | _ => .bad)
  | _ => .bad
def tMethS (A : Addr) (m : Str) (sp : Sp) (E : L2.St → XK) (ta : TE) (t : TA) : TE := fun σ H Q => ta σ H fun x H1 => ∃ a dx fs, x = .ref a ∧ H1 a = some (.ins A dx fs) ∧ fs.lookup m = none ∧ t σ H1 fun vs H2 => sp (x :: vs) H2 Q (E σ)
variable {m : Str} {apos : Pos} {k np c : Nat} {fn : Fn}
theorem pe_methS {CX : CXT} {f A : Addr} {fd : FuncData} {ps : List Str} {sp : Sp} {E : L2.St → XK} {ta : TE} {t : TA} {pl : Sem Bool} (he : PE X o ta) (c : Cls X.K A) (hm : Meth X.K A m f)
    (F : FnOk X.prog X.w X.K X.mg X.base CX k f fd ps sp) (hr : Room k X.A) (hb : Binds X.K fd ps []) (hx : ∀ σ, PassesAt CX X σ (E σ)) (ha : PA X (e :: es) t)
    (hst : starEach (e :: es) X.env = (false, eval e X.env) :: starEach es X.env) (hpl : (backTo pos (starEach es X.env)).any (·.1) = false)
    (ht : eval (.Call (.Attribute o m apos) (e :: es) [] pos) X.env = (do
      let ov ← eval o X.env
      standAt apos.atName
      let (f, first) ← holding [ov] (getMethod ov m pl)
      callWith pos f first (backTo pos (starEach (e :: es) X.env)) (backToKw pos (keywordEach [] X.env)))) :
    PE X (.Call (.Attribute o m apos) (e :: es) [] pos) (tMethS A m sp E ta t) := by
  refine ⟨fun pins s σ H Q I h => ?_⟩
  refine PySem.W.methodCall_KW (pl := pl) (thn (he.run pins s σ H _ I h) fun u s1 ⟨x, H1, I1, rx, a, dx, fs, ex, ea, l, q⟩ => ?_) ht
  subst ex
  obtain rfl : u = Value.ref a := rx
  refine getmeth_ok I1 ea c hm l ?_
  refine PySem.W.callWith_K (first := [.ref a]) (h₀ := X.base) I.ok.mod.kin hm.kp (thn (ha.run pos pins s1 σ H1 _ I1 q) fun us s2 ⟨vs, H2, I2, r, q2⟩ => ⟨I2.kIn, ?_⟩) hst hpl
  exact run_fnS (us := .ref a :: us) (vs := .ref a :: vs) F hr hb (hx σ) I2 (.cons rfl r) q2
theorem pe_methS0 {CX : CXT} {f A : Addr} {fd : FuncData} {ps : List Str} {sp : Sp} {E : L2.St → XK} {ta : TE} {pl : Sem Bool} (he : PE X o ta) (c : Cls X.K A) (hm : Meth X.K A m f)
    (F : FnOk X.prog X.w X.K X.mg X.base CX k f fd ps sp) (hr : Room k X.A) (hb : Binds X.K fd ps []) (hx : ∀ σ, PassesAt CX X σ (E σ))
    (ht : eval (.Call (.Attribute o m apos) [] [] pos) X.env = (do
      let ov ← eval o X.env
      standAt apos.atName
      let (f, first) ← holding [ov] (getMethod ov m pl)
      callWith pos f first (backTo pos (starEach [] X.env)) (backToKw pos (keywordEach [] X.env)))) :
    PE X (.Call (.Attribute o m apos) [] [] pos) (tMethS A m sp E ta tNil) := by
  refine ⟨fun pins s σ H Q I h => ?_⟩
  refine PySem.W.methodCall_KW (pl := pl) (thn (he.run pins s σ H _ I h) fun u s1 ⟨x, H1, I1, rx, a, dx, fs, ex, ea, l, q⟩ => ?_) ht
  subst ex
  obtain rfl : u = Value.ref a := rx
  refine getmeth_ok I1 ea c hm l ?_
  exact PySem.W.callWith_K0 (first := [.ref a]) I1.kIn hm.kp (run_fnS (us := [.ref a]) (vs := [.ref a]) F hr hb (hx σ) I1 (.cons rfl .nil) q)
theorem sat_meth {A : Addr} {ta : TE} {t : TA} (hA : C.cl c = some A) (hno : ∀ i, i < C.fN → C.fn i ≠ m) (so : Sat C W ta fo) (sa : Sat C W t fas) :
    Sat C W (tMethS A m (spD C np fn) (WE W) ta t) (methE c np fn fo fas) := fun g σ H r O R S Q h => so.seq R S h fun d O1 v g1 H1 e1 R1 S1 s1 h1 => by
  split at h1
  · rename_i l
    have s1' := s1
    simp only [Rel.sh, Shr] at s1
    obtain ⟨rfl, hl⟩ := s1
    split at h1
    · rename_i c' fs ec
      split at h1
      · rename_i hc
        subst hc
        obtain ⟨A', dx, vs, h3, h4, h5⟩ := R1.cell l _ ec
        rw [hA] at h3
        cases h3
        refine ⟨_, dx, vs, rfl, h4, shrF_none hno h5, ?_⟩
        exact sa.seq R1 S1 h1 fun ds O2 ws g2 H2 e2 R2 S2 s2 h2 => by
          split at h2
          · rename_i hn
            refine ⟨g2, O2, .ob l :: ds, by simpa using hn, R2, ?_, post_W h2⟩
            simp only [ShrL]
            exact ⟨_, ws, rfl, s1'.mono e2.le, s2⟩
          · exact h2.elim
      · exact h1.elim
    · exact h1.elim
  · exact h1.elim
theorem d_meth (c : Nat) {pl : Sem Bool} (hK : X.K = C.K) (Fa : Facts C) (G1 : GM X.prog X.w X.K X.mg X.base C c m k np fn) (hr : Room k X.A) (tk : Takes X W) (hno : ∀ i, i < C.fN → C.fn i ≠ m) (ho : DE C X W o fo) (ha : DA C X W (e :: es) fas)
    (hst : starEach (e :: es) X.env = (false, eval e X.env) :: starEach es X.env := by rfl) (hpl : (backTo pos (starEach es X.env)).any (·.1) = false := by rfl)
    (ht : eval (.Call (.Attribute o m apos) (e :: es) [] pos) X.env = (do
      let ov ← eval o X.env
      standAt apos.atName
      let (f, first) ← holding [ov] (getMethod ov m pl)
      callWith pos f first (backTo pos (starEach (e :: es) X.env)) (backToKw pos (keywordEach [] X.env))) := by rfl) :
    DE C X W (.Call (.Attribute o m apos) (e :: es) [] pos) (methE c np fn fo fas) := by
  obtain ⟨A, f, fd, ps, h1, h2, h3, h4, h5⟩ := G1.ex
  obtain ⟨_, po, so⟩ := ho.ex
  obtain ⟨_, pa, sa⟩ := ha.ex
  exact ⟨_, pe_methS po (by rw [hK]; exact Fa.cls c A h1) h2 h4 hr h5 (fun σ => passAt tk σ) pa hst hpl ht, sat_meth h1 hno so sa⟩
theorem d_meth0 (c : Nat) {pl : Sem Bool} (hK : X.K = C.K) (Fa : Facts C) (G1 : GM X.prog X.w X.K X.mg X.base C c m k np fn) (hr : Room k X.A) (tk : Takes X W) (hno : ∀ i, i < C.fN → C.fn i ≠ m) (ho : DE C X W o fo)
    (ht : eval (.Call (.Attribute o m apos) [] [] pos) X.env = (do
      let ov ← eval o X.env
      standAt apos.atName
      let (f, first) ← holding [ov] (getMethod ov m pl)
      callWith pos f first (backTo pos (starEach [] X.env)) (backToKw pos (keywordEach [] X.env))) := by rfl) :
    DE C X W (.Call (.Attribute o m apos) [] [] pos) (methE c np fn fo nilA) := by
  obtain ⟨A, f, fd, ps, h1, h2, h3, h4, h5⟩ := G1.ex
  obtain ⟨_, po, so⟩ := ho.ex
  exact ⟨_, pe_methS0 po (by rw [hK]; exact Fa.cls c A h1) h2 h4 hr h5 (fun σ => passAt tk σ) ht, sat_meth h1 hno so sat_nil⟩
end
end Dn
set_option Elab.async false
set_option linter.all false
set_option maxRecDepth 100000
set_option maxHeartbeats 2000000
namespace Dn
open PySem PySem.Spec PyProof.Rows L2
section
variable {C : Ctx} {X : Cx} {W : WX}
variable {x : Str} {p pos pos' : Pos} {e a b : Expr} {es : List Expr} {fas : Rho → Sto → Res (List D)} {fe fo fa fb : DE0} {k np c : Nat} {fn : Fn}
/-! ### C(..) -/
def tMakeS (A : Addr) (sp : Sp) (E : L2.St → XK) (t : TA) : TE := fun σ H Q => t σ H fun vs H1 => ∀ x dx, H1 x = none → H1 dx = none → dx ≠ x →
  sp (.ref x :: vs) (upd (upd H1 dx (.own x)) x (.ins A dx [])) (fun v H2 => v = .non ∧ Q (.ref x) H2) (E σ)
theorem make_run {CX : CXT} {f A : Addr} {fd : FuncData} {ps : List Str} {sp : Sp} {E : XK} {pins : List (Addr × Obj)} {σ : L2.St} {H : Hp} {s : Shared} {Q : VK} {us : List Value} {vs : List V} (M : Mk X.K A f)
    (F : FnOk X.prog X.w X.K X.mg X.base CX k f fd ps sp) (hr : Room (k + 1) X.A) (hb : Binds X.K fd ps []) (hx : PassesAt CX X σ E) (I : Inv X pins σ H s) (r : Vals vs us)
    (h : ∀ x dx, H x = none → H dx = none → dx ≠ x → sp (.ref x :: vs) (upd (upd H dx (.own x)) x (.ins A dx [])) (fun v H2 => v = .non ∧ Q (.ref x) H2) E) :
    wpAny (model X.prog X.w) X.A (call (.ref A) us) (EP X pins σ Q) X.xe s := by
  generalize hn : s.heap.objs.size = n at *
  have hq := h (n + 1) n (I.hok.fresh (by rw [hn]; exact Nat.le_succ _)) (I.hok.fresh (by rw [hn]; exact Nat.le_refl _)) (Nat.ne_of_lt (Nat.lt_succ_self n))
  have J := Inv.made (C := A) I
  rw [hn] at J
  have rr : Vals (V.ref (n + 1) :: vs) (Value.ref (n + 1) :: us) := .cons rfl r
  have hlen : (Value.ref (n + 1) :: us).length = ps.length := rr.length.symm.trans (F.len _ _ _ _ hq)
  have bb := hb _ (Value.ref (n + 1) :: us) J.kIn (by rw [List.append_nil]; exact hlen)
  rw [List.append_nil] at bb
  have go := F.run _ X.stack _ _ ⟨Value.ref (n + 1) :: us, []⟩ _ _ _ E (hr.make A us []) (J.env0.make A us []) bb rr hq
  subst hn
  refine wpAny_call (make_map I.kIn M.makes M.init (beq_iff_eq.mp M.fn) (codeAny_mono go fun res s' out => ?_))
  match res, out with
  | .error er, out => exact hx pins _ _ er s' J out
  | .ok (.ret u), out =>
    obtain ⟨v, H', I3, rv, ev, q3⟩ := J.after out
    subst ev
    exact ⟨rv, V.ref (s.heap.objs.size + 1), H', I3, rfl, q3⟩
theorem pe_makeS {CX : CXT} {f A : Addr} {fd : FuncData} {ps : List Str} {sp : Sp} {E : L2.St → XK} {t : TA} (M : Mk X.K A f) (F : FnOk X.prog X.w X.K X.mg X.base CX k f fd ps sp) (hr : Room (k + 1) X.A) (hg : Gl X x) (hm : X.mg x = some (.ref A)) (hb : Binds X.K fd ps []) (hx : ∀ σ, PassesAt CX X σ (E σ))
    (ha : PA X (e :: es) t) (hdb : (x == ("__debug__" : Str)) = false) (he : starEach (e :: es) X.env = (false, eval e X.env) :: starEach es X.env) (hpl : (backTo pos (starEach es X.env)).any (·.1) = false) :
    PE X (.Call (.Name x p) (e :: es) [] pos) (tMakeS A sp E t) :=
  ⟨fun pins s σ H Q I h => wpAny_Call_Name_kw (ld_glob I hg hm (PySem.W.callWith_K (h₀ := X.base) I.ok.mod.kin M.kp (thn (ha.run pos pins s σ H _ I h) fun us s1 ⟨vs, H1, I1, r, q⟩ => ⟨I1.kIn, make_run M F hr hb (hx σ) I1 r q⟩) he hpl) hdb)⟩
theorem pe_makeS0 {CX : CXT} {f A : Addr} {fd : FuncData} {ps : List Str} {sp : Sp} {E : L2.St → XK} (M : Mk X.K A f) (F : FnOk X.prog X.w X.K X.mg X.base CX k f fd ps sp) (hr : Room (k + 1) X.A) (hg : Gl X x) (hm : X.mg x = some (.ref A)) (hb : Binds X.K fd ps []) (hx : ∀ σ, PassesAt CX X σ (E σ))
    (hdb : (x == ("__debug__" : Str)) = false) : PE X (.Call (.Name x p) [] [] pos) (tMakeS A sp E tNil) :=
  ⟨fun pins s σ H Q I h => wpAny_Call_Name_kw (ld_glob I hg hm (PySem.W.callWith_K0 I.kIn M.kp (make_run (us := []) M F hr hb (hx σ) I .nil h)) hdb)⟩
/-- a class of the text with its __init__ -/
structure GK (P : Program) (w : World) (K : PySem.W.Frag) (mg : Str → Option Value) (base : Heap) (C : Ctx) (x : Str) (c k np : Nat) (fn : Fn) : Prop where
  ex : ∃ A f fd ps, C.cl c = some A ∧ mg x = some (.ref A) ∧ Mk K A f ∧ ps.length = np ∧ FnOk P w K mg base (L2.CX P w) k f fd ps (spD C np fn) ∧ Binds K fd ps []
theorem GK.mono {P : Program} {w : World} {K : PySem.W.Frag} {mg : Str → Option Value} {base : Heap} {c j k np : Nat} (h : GK P w K mg base C x c j np fn) (hk : j ≤ k) : GK P w K mg base C x c k np fn := by
  obtain ⟨A, f, fd, ps, h1, h2, h3, h4, h5, h6⟩ := h.ex
  exact ⟨A, f, fd, ps, h1, h2, h3, h4, h5.mono hk, h6⟩
def asNon (l : Nat) (d : D) (O : Sto) : ER := match d with | .non => .ok (.ob l) O | _ => .bad
def makeE (c np : Nat) (fn : Fn) (fas : Rho → Sto → Res (List D)) : DE0 := fun r O => (fas r O).bind fun ds O1 => if ds.length + 1 = np then (fn (.ob O1.length :: ds) (O1 ++ [.ins c []])).bind (asNon O1.length) else .bad
theorem sat_make {A : Addr} {t : TA} (hA : C.cl c = some A) (sa : Sat C W t fas) : Sat C W (tMakeS A (spD C np fn) (WE W) t) (makeE c np fn fas) := fun g σ H r O R S Q h => sa.seq R S h fun ds O1 vs g1 H1 e1 R1 S1 s1 h1 => by
  intro x dx nx nd ne
  split at h1
  · rename_i hn
    have k1 : ∀ a o, H1 a = some o → upd (upd H1 dx (.own x)) x (.ins A dx []) a = some o := fun a o q => by
      rw [upd_ne (ne_of_none q nx), upd_ne (ne_of_none q nd)]; exact q
    have R2 := R1.add (c := .ins c []) nx k1 ⟨A, dx, [], hA, upd_same, rfl⟩
    have e2 := Ext.add (H' := upd (upd H1 dx (.own x)) x (.ins A dx [])) R1 nx k1
    have hl : (g1.add x).θ O1.length = x := by rw [← R1.n]; exact G.add_at
    have hl2 : O1.length < (g1.add x).n := by show O1.length < g1.n + 1; have := R1.n; omega
    refine ⟨g1.add x, _, .ob O1.length :: ds, by simpa using hn, R2, ?_, ?_⟩
    · simp only [ShrL, Shr]
      exact ⟨_, vs, by rw [hl], ⟨rfl, hl2⟩, ShrL.mono GLe.add _ _ s1⟩
    · have h2 := post_W (Post.shift e2 h1)
      cases z : fn (.ob O1.length :: ds) (O1 ++ [.ins c []]) with
      | bad => rw [z] at h2; exact h2.elim
      | exc er O3 => rw [z] at h2; exact h2
      | ok d O3 =>
        rw [z] at h2
        intro v g3 H3 e3 R3 s3
        cases d with
        | non =>
          refine ⟨s3, ?_⟩
          refine h2 (.ref x) g3 H3 e3 R3 ?_
          show Shr _ _ (.ob _) _
          simp only [Shr]
          rw [e3.le.θ _ hl2, hl]
          exact ⟨rfl, Nat.lt_of_lt_of_le hl2 e3.le.n⟩
        | _ => exact h2.elim
  · exact h1.elim
theorem d_make (G1 : GK X.prog X.w X.K X.mg X.base C x c k np fn) (hr : Room (k + 1) X.A) (tk : Takes X W) (hg : Gl X x) (ha : DA C X W (e :: es) fas)
    (hdb : (x == ("__debug__" : Str)) = false := by decide) (he : starEach (e :: es) X.env = (false, eval e X.env) :: starEach es X.env := by rfl) (hpl : (backTo pos (starEach es X.env)).any (·.1) = false := by rfl) :
    DE C X W (.Call (.Name x p) (e :: es) [] pos) (makeE c np fn fas) := by
  obtain ⟨A, f, fd, ps, h1, h2, h3, h4, h5, h6⟩ := G1.ex
  obtain ⟨_, pa, sa⟩ := ha.ex
  exact ⟨_, pe_makeS h3 h5 hr hg h2 h6 (fun σ => passAt tk σ) pa hdb he hpl, sat_make h1 sa⟩
theorem d_make0 (G1 : GK X.prog X.w X.K X.mg X.base C x c k np fn) (hr : Room (k + 1) X.A) (tk : Takes X W) (hg : Gl X x) (hdb : (x == ("__debug__" : Str)) = false := by decide) :
    DE C X W (.Call (.Name x p) [] [] pos) (makeE c np fn nilA) := by
  obtain ⟨A, f, fd, ps, h1, h2, h3, h4, h5, h6⟩ := G1.ex
  exact ⟨_, pe_makeS0 h3 h5 hr hg h2 h6 (fun σ => passAt tk σ) hdb, sat_make h1 sat_nil⟩
/-! ### isinstance of built-in types -/
/-- a value's type: 0 None, 1 bool, 2 int, 3 str, 4 tuple, 5 list, 6 dict -/
def tyD (d : D) (O : Sto) : Option Nat := match d with
  | .non => some 0 | .bl _ => some 1 | .int _ => some 2 | .str _ => some 3 | .tup _ => some 4 | .lst _ => some 5 | .scr _ => some 5
  | .ob l => match O[l]? with | some (.lst _) => some 5 | some (.dic _) => some 6 | _ => none
def tyName : Nat → String
  | 0 => "NoneType" | 1 => "bool" | 2 => "int" | 3 => "str" | 4 => "tuple" | 5 => "list" | _ => "dict"
def isTy (t T : Nat) : Bool := t == T || (t == 1 && T == 2)
def isiD (T : Nat) : O1 := fun d O => match tyD d O with | some t => .ok (.bl (isTy t T)) O | none => .bad
theorem rd_tup {K : PySem.W.Frag} {H : Hp} {a : Addr} {vs : List V} (h : SqT K H a vs) : TyX K H (.ref a) (.type "tuple") := by
  rcases h with (h | ⟨o, h⟩) | ⟨o, its, n, h1, h2, _⟩
  · exact .base (.tup h)
  · exact .fTuple h
  · exact .kTuple h1 h2
theorem rd_lst {K : PySem.W.Frag} {H : Hp} {a : Addr} {vs : List V} (h : SqL K H a vs) : TyX K H (.ref a) (.type "list") := by
  rcases h with (h | ⟨o, h⟩) | ⟨o, its, n, h1, h2, _⟩
  · exact .base (.lst h)
  · exact .base (.frz h)
  · exact .kList h1 h2
theorem tyX_of {g : G} {H : Hp} {O : Sto} (R : RepO C g H O) {d : D} {v : V} (s : Shr C.K g d v) {t : Nat} (h : tyD d O = some t) : TyX C.K H v (.type (tyName t)) := by
  cases d with
  | non => cases h; cases s; exact .base .non
  | bl b => cases h; cases s; exact .base (.bl b)
  | int i => cases h; cases s; exact .base (.int i)
  | str x => cases h; cases s; exact .base (.str _)
  | tup ds =>
    cases h
    simp only [Shr] at s
    obtain ⟨a, vs, rfl, h2, _⟩ := s
    exact rd_tup (ex_t R.F h2)
  | lst ds =>
    cases h
    simp only [Shr] at s
    obtain ⟨a, vs, rfl, h2, _⟩ := s
    exact .base (.lst (R.F _ _ h2))
  | scr ds =>
    cases h
    simp only [Shr] at s
    obtain ⟨a, vs, rfl, h2, _⟩ := s
    exact rd_lst (ex_l R.F h2)
  | ob l =>
    simp only [Shr] at s
    obtain ⟨rfl, _⟩ := s
    unfold tyD at h
    simp only at h
    split at h
    · rename_i e
      cases h
      obtain ⟨vs, h1, _⟩ := R.cell l _ e
      exact .base (.lst h1)
    · rename_i e
      cases h
      obtain ⟨vs, h1, _⟩ := R.cell l _ e
      exact .base (.dK h1)
    · cases h
def kits : Bool := (List.range 7).all fun t => (List.range 7).all fun T => kitB (tyName t) (tyName T) == some (isTy t T)
theorem kits_ok : kits = true := by decide +kernel
theorem kit_at {t T : Nat} (h1 : t < 7) (h2 : T < 7) : kitB (tyName t) (tyName T) = some (isTy t T) := by
  have h := List.all_eq_true.mp (List.all_eq_true.mp kits_ok t (List.mem_range.mpr h1)) T (List.mem_range.mpr h2)
  exact eq_of_beq h
theorem tyD_lt {d : D} {O : Sto} {t : Nat} (h : tyD d O = some t) : t < 7 := by
  unfold tyD at h
  split at h <;> (try split at h) <;> cases h <;> decide
theorem d_isi (T : Nat) {n : Str} {pT : Pos} (hK : X.K = C.K) (hT : T < 7) (hg : Gl X "isinstance") (hm : X.mg "isinstance" = none) (he : DE C X W e fe) (hgT : Gl X n) (hmT : X.mg n = none) (hv : bootBuiltins n = some (.type (tyName T))) (hnn : n ≠ "__name__" := by decide) (hnd : (n == ("__debug__" : Str)) = false := by decide)
    (hs1 : starEach [.Name n pT] X.env = (false, eval (.Name n pT) X.env) :: starEach [] X.env := by rfl)
    (hs : starEach [e, .Name n pT] X.env = (false, eval e X.env) :: starEach [.Name n pT] X.env := by rfl) (hpl : (backTo pos (starEach [.Name n pT] X.env)).any (·.1) = false := by rfl) :
    DE C X W (.Call (.Name "isinstance" p) [e, .Name n pT] [] pos) (op1 (isiD T) fe) := by
  obtain ⟨te, pe, se⟩ := he.ex
  refine ⟨_, pe_callB call_isi hg hm (by decide +kernel) (pa_cons pe (pa_cons (pe_bltn (v := .ty (tyName T)) hgT hmT hv rfl hnn hnd) pa_nil hs1) hs) (by decide) (by decide) hs hpl, fun g σ H r O R S Q h => ?_⟩
  refine se.seq R S h fun d O1 v g1 H1 e1 R1 S1 s1 h1 => ?_
  unfold isiD at h1
  split at h1
  · rename_i t et
    refine ⟨v, .ty (tyName T), _, _, _, rfl, .ty _, hK ▸ tyX_of R1 s1 et, kit_ty (kit_at (tyD_lt et) hT), Post.fin R1 rfl h1⟩
  · exact h1.elim
/-! ### tuple(x), list(x), all(x), str(x) -/
def tupleF : List D → Sto → ER := fun ds O => match ds with
  | [.tup xs] => .ok (.tup xs) O
  | [d] => (match listR d O with | some xs => .ok (.tup xs) O | none => .bad)
  | _ => .bad
theorem s_tuple : SatC C W (fun xs H Q => ∃ p ys, xs = [.ref p] ∧ ((SqL C.K H p ys ∧ ∀ l, H l = none → Q (.ref l) (upd H l (.tup ys))) ∨ (SqT C.K H p ys ∧ Q (.ref p) H))) tupleF := by
  intro g H O R ds vs s σ Q h
  unfold tupleF at h
  split at h
  · rename_i xs
    obtain ⟨v, rfl, sv⟩ := shrL_one s
    have sv' := sv
    simp only [Shr] at sv
    obtain ⟨a, ws, rfl, h2, h3⟩ := sv
    exact ⟨a, ws, rfl, .inr ⟨ex_t R.F h2, Post.fin R sv' h⟩⟩
  · rename_i d _
    obtain ⟨v, rfl, sv⟩ := shrL_one s
    split at h
    · rename_i xs ex
      obtain ⟨a, ws, rfl, h2, h3⟩ := listR_of R sv ex
      exact ⟨a, ws, rfl, .inl ⟨h2, fun l hl => new_tup R h3 h hl⟩⟩
    · exact h.elim
  · exact h.elim
def listF (m : Bool) : List D → Sto → ER := fun ds O => match ds with
  | [d] => (match seqR d O with | some xs => mkL m xs O | none => .bad)
  | _ => .bad
theorem s_list (m : Bool) : SatC C W (fun xs H Q => ∃ p ys, xs = [.ref p] ∧ (SqL C.K H p ys ∨ SqT C.K H p ys) ∧ ∀ l, H l = none → Q (.ref l) (upd H l (.lst ys))) (listF m) := by
  intro g H O R ds vs s σ Q h
  unfold listF at h
  split at h
  · rename_i d
    obtain ⟨v, rfl, sv⟩ := shrL_one s
    split at h
    · rename_i xs ex
      obtain ⟨a, ws, rfl, h2, h3⟩ := seqR_of R sv ex
      exact ⟨a, ws, rfl, h2, fun l hl => new_lst R h3 h hl⟩
    · exact h.elim
  · exact h.elim
def blD (d : D) : Option Bool := match d with | .bl b => some b | _ => none
def bls : List D → Option (List Bool)
  | [] => some []
  | d :: ds => match blD d, bls ds with | some b, some bs => some (b :: bs) | _, _ => none
theorem bls_of {K : PySem.W.Frag} {g : G} : ∀ {ds : List D} {vs : List V} {bs : List Bool}, ShrL K g ds vs → bls ds = some bs → vs = bs.map V.bl
  | [], vs, bs, h, e => by simp only [ShrL] at h; subst h; simp [bls] at e; subst e; rfl
  | d :: ds, vs, bs, h, e => by
    simp only [ShrL] at h
    obtain ⟨v, r, rfl, h2, h3⟩ := h
    unfold bls at e
    split at e
    · rename_i b bs' e1 e2
      cases e
      unfold blD at e1
      split at e1
      · cases e1
        cases h2
        rw [bls_of h3 e2]; rfl
      · cases e1
    · cases e
def allF : List D → Sto → ER := fun ds O => match ds with
  | [d] => (match listR d O with | some xs => (match bls xs with | some bs => .ok (.bl (bs.all id)) O | none => .bad) | none => .bad)
  | _ => .bad
def anyF : List D → Sto → ER := fun ds O => match ds with
  | [d] => (match listR d O with | some xs => (match bls xs with | some bs => .ok (.bl (bs.any id)) O | none => .bad) | none => .bad)
  | _ => .bad
theorem s_all : SatC C W (rAll C.K) allF := by
  intro g H O R ds vs s σ Q h
  unfold allF at h
  split at h
  · rename_i d
    obtain ⟨v, rfl, sv⟩ := shrL_one s
    split at h
    · rename_i xs ex
      split at h
      · rename_i bs eb
        obtain ⟨a, ws, rfl, h2, h3⟩ := listR_of R sv ex
        have := bls_of h3 eb
        subst this
        exact ⟨a, bs, rfl, h2, Post.fin R rfl h⟩
      · exact h.elim
    · exact h.elim
  · exact h.elim
theorem s_any : SatC C W (rAny C.K) anyF := by
  intro g H O R ds vs s σ Q h
  unfold anyF at h
  split at h
  · rename_i d
    obtain ⟨v, rfl, sv⟩ := shrL_one s
    split at h
    · rename_i xs ex
      split at h
      · rename_i bs eb
        obtain ⟨a, ws, rfl, h2, h3⟩ := listR_of R sv ex
        have := bls_of h3 eb
        subst this
        exact ⟨a, bs, rfl, h2, Post.fin R rfl h⟩
      · exact h.elim
    · exact h.elim
  · exact h.elim
end
end Dn
set_option Elab.async false
set_option linter.all false
set_option maxRecDepth 100000
set_option maxHeartbeats 2000000
namespace Dn
open PySem PySem.Spec PyProof.Rows L2
section
variable {C : Ctx} {X : Cx} {W : WX}
variable {x : Str} {p pos pos' apos : Pos} {e o a b c : Expr} {es : List Expr} {fas : Rho → Sto → Res (List D)} {fe fo fa fb fc : DE0}
/-! ### each construct under one name -/
theorem e_add (m : Bool) (hK : X.K = C.K) (ha : DE C X W a fa) (hb : DE C X W b fb) : DE C X W (.BinOp a .Add b pos) (op2 (addD m) fa fb) := d_op (op_addD (X := X)) (by rw [hK]; exact s_add m) ha hb
theorem e_sub (ha : DE C X W a fa) (hb : DE C X W b fb) : DE C X W (.BinOp a .Sub b pos) (op2 subD fa fb) := d_op op_sub s_sub ha hb
theorem e_mod (ha : DE C X W a fa) (hb : DE C X W b fb) : DE C X W (.BinOp a .Mod b pos) (op2 modD fa fb) := d_op op_mod s_mod ha hb
theorem e_fdiv (ha : DE C X W a fa) (hb : DE C X W b fb) : DE C X W (.BinOp a .FloorDiv b pos) (op2 fdivD fa fb) := d_op op_fdiv s_fdiv ha hb
theorem e_neg (ha : DE C X W a fa) : DE C X W (.UnaryOp .USub a pos) (op1 negD fa) := d_un un_neg s_neg ha
/-- * -/
def mulOk (i j : Int) : Bool := (decide (-18446744073709551616 < i) && decide (i < 18446744073709551616)) || (decide (-18446744073709551616 < j) && decide (j < 18446744073709551616))
def mulD (m : Bool) : O2 := fun a b O => match a, b with
  | .int i, .int j => if mulOk i j then .ok (.int (i * j)) O else .bad
  | .tup xs, .int k => if decide (xs ≠ []) && decide (2 ≤ k) && decide (k ≤ 1000) && decide (xs.length ≤ 1000) then .ok (.tup (List.replicate k.toNat xs).flatten) O else .bad
  | a, .int k => (match listS a O with
    | some xs => if decide (-9223372036854775808 ≤ k) && decide (k < 9223372036854775808) && decide (xs.length * k.toNat ≤ sizeLine) then mkL m (List.replicate k.toNat xs).flatten O else .bad
    | none => .bad)
  | _, _ => .bad
theorem shrL_rep {K : PySem.W.Frag} {g : G} {ds : List D} {vs : List V} (h : ShrL K g ds vs) : ∀ k : Nat, ShrL K g (List.replicate k ds).flatten (List.replicate k vs).flatten
  | 0 => by simp [ShrL]
  | k + 1 => by
    rw [List.replicate_succ, List.replicate_succ, List.flatten_cons, List.flatten_cons]
    exact shrL_append h (shrL_rep h k)
def rMulA (K : PySem.W.Frag) : R2 := fun x y H Q => rI CMul (fun i j => .int (i * j)) x y H Q ∨ rRepT K x y H Q ∨ rRep x y H Q
theorem op_mulA : OpR X (binaryOp .Mult) (rMulA X.K) := op_mul.or (op_repT.or op_rep)
theorem s_mul (m : Bool) : Sat2 C W (rMulA C.K) (mulD m) := by
  intro g H O R a b x y sx sy σ Q h
  unfold mulD at h
  split at h
  · cases sx; cases sy
    split at h
    · rename_i hm
      refine .inl ⟨_, _, rfl, rfl, ?_, Post.fin R rfl h⟩
      simp only [mulOk, Bool.or_eq_true, Bool.and_eq_true, decide_eq_true_eq] at hm
      rcases hm with hm | hm
      · exact .inl ⟨by omega, by omega⟩
      · exact .inr ⟨by omega, by omega⟩
    · exact h.elim
  · rename_i xs k
    cases sy
    simp only [Shr] at sx
    obtain ⟨a, vs, rfl, a2, a3⟩ := sx
    split at h
    · rename_i hc
      simp only [Bool.and_eq_true, decide_eq_true_eq] at hc
      have hl := shrL_len a3
      refine .inr (.inl ⟨a, k, vs, rfl, rfl, ex_t R.F a2, fun z => hc.1.1.1 ?_, hc.1.1.2, hc.1.2, by omega, fun p hp => new_tup R (shrL_rep a3 _) h hp⟩)
      subst z
      exact List.eq_nil_of_length_eq_zero (by simpa using hl.symm)
    · exact h.elim
  · rename_i d k _ _
    cases sy
    split at h
    · rename_i xs ex
      obtain ⟨a, vs, rfl, a2, a3⟩ := listS_of R sx ex
      split at h
      · rename_i hc
        simp only [Bool.and_eq_true, decide_eq_true_eq] at hc
        have hl := shrL_len a3
        exact .inr (.inr ⟨a, k, vs, rfl, rfl, a2, by omega, by omega, by rw [hl]; exact hc.2, fun p hp => new_lst R (shrL_rep a3 _) h hp⟩)
      · exact h.elim
    · exact h.elim
  · exact h.elim
theorem e_mul (m : Bool) (hK : X.K = C.K) (ha : DE C X W a fa) (hb : DE C X W b fb) : DE C X W (.BinOp a .Mult b pos) (op2 (mulD m) fa fb) := d_op (op_mulA (X := X)) (by rw [hK]; exact s_mul m) ha hb
/-! comparisons as values, as tests -/
theorem e_eq (hK : X.K = C.K) (hu : X.A.units + 64 < cLine) (ha : DE C X W a fa) (hb : DE C X W b fb) : DE C X W (.Compare a [.Eq] [b] pos) (op2 eqD fa fb) := d_cmp (op_eqA hu) (by rw [hK]; exact s_eq) ha hb
theorem e_ne (hK : X.K = C.K) (hu : X.A.units + 64 < cLine) (ha : DE C X W a fa) (hb : DE C X W b fb) : DE C X W (.Compare a [.NotEq] [b] pos) (op2 neD fa fb) := d_cmp (op_neA hu) (by rw [hK]; exact s_ne) ha hb
theorem e_lt (ha : DE C X W a fa) (hb : DE C X W b fb) : DE C X W (.Compare a [.Lt] [b] pos) (op2 ltD fa fb) := d_cmp op_lt s_lt ha hb
theorem e_le (ha : DE C X W a fa) (hb : DE C X W b fb) : DE C X W (.Compare a [.LtE] [b] pos) (op2 leD fa fb) := d_cmp op_le s_le ha hb
theorem e_gt (ha : DE C X W a fa) (hb : DE C X W b fb) : DE C X W (.Compare a [.Gt] [b] pos) (op2 gtD fa fb) := d_cmp op_gt s_gt ha hb
theorem e_ge (ha : DE C X W a fa) (hb : DE C X W b fb) : DE C X W (.Compare a [.GtE] [b] pos) (op2 geD fa fb) := d_cmp op_ge s_ge ha hb
theorem e_isN (ha : DE C X W a fa) (hb : DE C X W b fb) : DE C X W (.Compare a [.Is] [b] pos) (op2 isNoneD fa fb) := d_cmp op_isN s_isN ha hb
theorem e_notN (ha : DE C X W a fa) (hb : DE C X W b fb) : DE C X W (.Compare a [.IsNot] [b] pos) (op2 notNoneD fa fb) := d_cmp op_notN s_notN ha hb
theorem e_in (hK : X.K = C.K) (hu : X.A.units + 64 < cLine) (ha : DE C X W a fa) (hb : DE C X W b fb) (hm : behindInMarks .In b = false := by rfl) : DE C X W (.Compare a [.In] [b] pos) (op2 (inB false) fa fb) := d_cmp (op_inA (by omega)) (by rw [hK]; exact s_in false) ha hb hm
theorem e_notin (hK : X.K = C.K) (hu : X.A.units + 64 < cLine) (ha : DE C X W a fa) (hb : DE C X W b fb) (hm : behindInMarks .NotIn b = false := by rfl) : DE C X W (.Compare a [.NotIn] [b] pos) (op2 (inB true) fa fb) := d_cmp (op_notInA (by omega)) (by rw [hK]; exact s_in true) ha hb hm
theorem t_eq (hK : X.K = C.K) (hu : X.A.units + 64 < cLine) (ha : DE C X W a fa) (hb : DE C X W b fb) : DT C X W (.Compare a [.Eq] [b] pos) (cmpT eqD fa fb) := t_cmp (op_eqA hu) (by rw [hK]; exact s_eq) ha hb
theorem t_ne (hK : X.K = C.K) (hu : X.A.units + 64 < cLine) (ha : DE C X W a fa) (hb : DE C X W b fb) : DT C X W (.Compare a [.NotEq] [b] pos) (cmpT neD fa fb) := t_cmp (op_neA hu) (by rw [hK]; exact s_ne) ha hb
theorem t_lt (ha : DE C X W a fa) (hb : DE C X W b fb) : DT C X W (.Compare a [.Lt] [b] pos) (cmpT ltD fa fb) := t_cmp op_lt s_lt ha hb
theorem t_le (ha : DE C X W a fa) (hb : DE C X W b fb) : DT C X W (.Compare a [.LtE] [b] pos) (cmpT leD fa fb) := t_cmp op_le s_le ha hb
theorem t_gt (ha : DE C X W a fa) (hb : DE C X W b fb) : DT C X W (.Compare a [.Gt] [b] pos) (cmpT gtD fa fb) := t_cmp op_gt s_gt ha hb
theorem t_ge (ha : DE C X W a fa) (hb : DE C X W b fb) : DT C X W (.Compare a [.GtE] [b] pos) (cmpT geD fa fb) := t_cmp op_ge s_ge ha hb
theorem t_isN (ha : DE C X W a fa) (hb : DE C X W b fb) : DT C X W (.Compare a [.Is] [b] pos) (cmpT isNoneD fa fb) := t_cmp op_isN s_isN ha hb
theorem t_notN (ha : DE C X W a fa) (hb : DE C X W b fb) : DT C X W (.Compare a [.IsNot] [b] pos) (cmpT notNoneD fa fb) := t_cmp op_notN s_notN ha hb
theorem t_in (hK : X.K = C.K) (hu : X.A.units + 64 < cLine) (ha : DE C X W a fa) (hb : DE C X W b fb) (hm : behindInMarks .In b = false := by rfl) : DT C X W (.Compare a [.In] [b] pos) (cmpT (inB false) fa fb) := t_cmp (op_inA (by omega)) (by rw [hK]; exact s_in false) ha hb hm
theorem t_notin (hK : X.K = C.K) (hu : X.A.units + 64 < cLine) (ha : DE C X W a fa) (hb : DE C X W b fb) (hm : behindInMarks .NotIn b = false := by rfl) : DT C X W (.Compare a [.NotIn] [b] pos) (cmpT (inB true) fa fb) := t_cmp (op_notInA (by omega)) (by rw [hK]; exact s_in true) ha hb hm
theorem t_lele (ha : DE C X W a fa) (hb : DE C X W b fb) (hc : DE C X W c fc) (hm : lastMarks [.LtE, .LtE] [b, c] = false := by with_unfolding_all rfl) : DT C X W (.Compare a [.LtE, .LtE] [b, c] pos) (chainT leD leD fa fb fc) := t_chain op_le op_le s_le s_le ha hb hc hm
theorem e_lele (ha : DE C X W a fa) (hb : DE C X W b fb) (hc : DE C X W c fc) (hm : lastMarks [.LtE, .LtE] [b, c] = false := by with_unfolding_all rfl) : DE C X W (.Compare a [.LtE, .LtE] [b, c] pos) (chainE leD leD fa fb fc) := d_chain op_le op_le s_le s_le ha hb hc hm
theorem t_eqeq (hK : X.K = C.K) (hu : X.A.units + 64 < cLine) (ha : DE C X W a fa) (hb : DE C X W b fb) (hc : DE C X W c fc) (hm : lastMarks [.Eq, .Eq] [b, c] = false := by with_unfolding_all rfl) : DT C X W (.Compare a [.Eq, .Eq] [b, c] pos) (chainT eqD eqD fa fb fc) := t_chain (op_eqA hu) (op_eqA hu) (by rw [hK]; exact s_eq) (by rw [hK]; exact s_eq) ha hb hc hm
/-! built-ins -/
section
variable (hg : Gl X x)
theorem e_len (hK : X.K = C.K) (hm : X.mg "len" = none) (hg : Gl X "len") (ha : DA C X W (e :: es) fas)
    (he : starEach (e :: es) X.env = (false, eval e X.env) :: starEach es X.env := by rfl) (hpl : (backTo pos (starEach es X.env)).any (·.1) = false := by rfl) : DE C X W (.Call (.Name "len" p) (e :: es) [] pos) (callE lenF fas) :=
  d_callB (call_lenA (X := X)) (by rw [hK]; exact s_len) hg hm PySem.boot_len ha (by decide) (by decide) he hpl
theorem e_all (hK : X.K = C.K) (hc : X.calm = true) (hm : X.mg "all" = none) (hg : Gl X "all") (ha : DA C X W (e :: es) fas)
    (he : starEach (e :: es) X.env = (false, eval e X.env) :: starEach es X.env := by rfl) (hpl : (backTo pos (starEach es X.env)).any (·.1) = false := by rfl) : DE C X W (.Call (.Name "all" p) (e :: es) [] pos) (callE allF fas) :=
  d_callB (cr_all hc) (by rw [hK]; exact s_all) hg hm (by decide +kernel) ha (by decide) (by decide) he hpl
theorem e_any (hK : X.K = C.K) (hc : X.calm = true) (hm : X.mg "any" = none) (hg : Gl X "any") (ha : DA C X W (e :: es) fas)
    (he : starEach (e :: es) X.env = (false, eval e X.env) :: starEach es X.env := by rfl) (hpl : (backTo pos (starEach es X.env)).any (·.1) = false := by rfl) : DE C X W (.Call (.Name "any" p) (e :: es) [] pos) (callE anyF fas) :=
  d_callB (cr_any hc) (by rw [hK]; exact s_any) hg hm (by decide +kernel) ha (by decide) (by decide) he hpl
theorem e_tuple (hK : X.K = C.K) (hm : X.mg "tuple" = none) (hg : Gl X "tuple") (ha : DA C X W (e :: es) fas)
    (he : starEach (e :: es) X.env = (false, eval e X.env) :: starEach es X.env := by rfl) (hpl : (backTo pos (starEach es X.env)).any (·.1) = false := by rfl) : DE C X W (.Call (.Name "tuple" p) (e :: es) [] pos) (callE tupleF fas) :=
  d_callTy (call_tuple_of (X := X)) (by rw [hK]; exact s_tuple) hg hm (by decide +kernel) ha (by decide) (by decide) he hpl
theorem e_list (m : Bool) (hK : X.K = C.K) (hm : X.mg "list" = none) (hg : Gl X "list") (ha : DA C X W (e :: es) fas)
    (he : starEach (e :: es) X.env = (false, eval e X.env) :: starEach es X.env := by rfl) (hpl : (backTo pos (starEach es X.env)).any (·.1) = false := by rfl) : DE C X W (.Call (.Name "list" p) (e :: es) [] pos) (callE (listF m) fas) :=
  d_callTy (call_list_of (X := X)) (by rw [hK]; exact s_list m) hg hm (by decide +kernel) ha (by decide) (by decide) he hpl
end
theorem e_append (hK : X.K = C.K) {cpos : Pos} (ho : DE C X W o fo) (ha : DA C X W [e] fas)
    (hbase : attributeBase o "append" X.env (eval o X.env) = eval o X.env := by rfl)
    (hfew : ((backTo cpos (starEach [e] X.env)).all (fun x => !x.1) && (backToKw cpos (keywordEach [] X.env)).all (fun x => x.1.isSome)
      && decide ([e].length + ([] : List Keyword).length + (if ([] : List Keyword).isEmpty then 0 else 1) < 30)) = true := by rfl)
    (hline : (apos.endLine == cpos.line) = true := by rfl) (hs : starEach [e] X.env = (false, eval e X.env) :: starEach [] X.env := by rfl) (hplain : (backTo cpos (starEach [] X.env)).any (·.1) = false := by rfl) :
    DE C X W (.Call (.Attribute o "append" apos) [e] [] cpos) (bmE tyLst appendF fo fas) :=
  d_bm hK PySem.F.plainAttrs_list PySem.F.slot_list_append PySem.F.type_list_append mt_append s_append ty_lst ho ha hbase hfew hline hs hplain
end
/-! ### the top's facts, the defs -/
section
variable {P : Program} {w : World} {K : PySem.W.Frag} {mg : Str → Option Value} {base : Heap} {C : Ctx}
structure RawF (K : PySem.W.Frag) (mg : Str → Option Value) (x : Str) (st : Stmt) (ps : List Str) : Prop where
  ex : ∃ f fd, Fun K x x st f fd ∧ mg x = some (.ref f) ∧ Binds K fd ps []
structure RawM (K : PySem.W.Frag) (C : Ctx) (c : Nat) (m q : Str) (st : Stmt) (ps : List Str) : Prop where
  ex : ∃ A f fd, C.cl c = some A ∧ Meth K A m f ∧ Fun K m q st f fd ∧ Binds K fd ps []
structure RawK (K : PySem.W.Frag) (mg : Str → Option Value) (C : Ctx) (x : Str) (c : Nat) (q : Str) (st : Stmt) (ps : List Str) : Prop where
  ex : ∃ A f fd, C.cl c = some A ∧ mg x = some (.ref A) ∧ Mk K A f ∧ Fun K "__init__" q st f fd ∧ Binds K fd ps []
theorem GF.mk' {x : Str} {st : Stmt} {N ps : List Str} {k : Nat} {B : DS0} (R : RawF K mg x st ps) (S : FnScope N ps (defScope st))
    (h : ∀ (f : Addr) (cdv : Value) (A : Around) (outer : List Env) (s : Shared) (H : Hp) (E : XK), Room k (A.deeper (envOfC x (defScope st) s.heap.objs.size f cdv)) →
      DSs C (cxOf (L2.CX P w) P w K mg base N x (defScope st) f cdv A outer s H E) (fun cv dx _ H' => E cv dx H') (defBody st) B) : GF P w K mg base C x (k + 1) ps.length (runFn N.length B) := by
  obtain ⟨f, fd, F, hm, hb⟩ := R.ex
  exact ⟨f, fd, ps, rfl, fn_okD F S (h f), hm, F.kp, hb⟩
theorem GM.mk' {c : Nat} {m q : Str} {st : Stmt} {N ps : List Str} {k : Nat} {B : DS0} (R : RawM K C c m q st ps) (S : FnScope N ps (defScope st))
    (h : ∀ (f : Addr) (cdv : Value) (A : Around) (outer : List Env) (s : Shared) (H : Hp) (E : XK), Room k (A.deeper (envOfC q (defScope st) s.heap.objs.size f cdv)) →
      DSs C (cxOf (L2.CX P w) P w K mg base N q (defScope st) f cdv A outer s H E) (fun cv dx _ H' => E cv dx H') (defBody st) B) : GM P w K mg base C c m (k + 1) ps.length (runFn N.length B) := by
  obtain ⟨A, f, fd, h1, h2, F, hb⟩ := R.ex
  exact ⟨A, f, fd, ps, h1, h2, rfl, fn_okD F S (h f), hb⟩
theorem GK.mk' {x q : Str} {c : Nat} {st : Stmt} {N ps : List Str} {k : Nat} {B : DS0} (R : RawK K mg C x c q st ps) (S : FnScope N ps (defScope st))
    (h : ∀ (f : Addr) (cdv : Value) (A : Around) (outer : List Env) (s : Shared) (H : Hp) (E : XK), Room k (A.deeper (envOfC q (defScope st) s.heap.objs.size f cdv)) →
      DSs C (cxOf (L2.CX P w) P w K mg base N q (defScope st) f cdv A outer s H E) (fun cv dx _ H' => E cv dx H') (defBody st) B) : GK P w K mg base C x c (k + 1) ps.length (runFn N.length B) := by
  obtain ⟨A, f, fd, h1, h2, h3, F, hb⟩ := R.ex
  exact ⟨A, f, fd, ps, h1, h2, h3, rfl, fn_okD F S (h f), hb⟩
/-- a module's constant -/
structure Cst (K : PySem.W.Frag) (mg : Str → Option Value) (x : Str) (d : D) : Prop where
  ex : ∃ u v, mg x = some u ∧ RelV v u ∧ ∀ g, Shr K g d v
theorem d_cst {X : Cx} {W : WX} {x : Str} {d : D} {pos : Pos} (hK : X.K = C.K) (c : Cst X.K X.mg x d) (hg : Gl X x) (hd : (x == ("__debug__" : Str)) = false := by decide) : DE C X W (.Name x pos) (constE d) := by
  obtain ⟨u, v, h1, h2, h3⟩ := c.ex
  exact d_glob hg h1 h2 (fun g => hK ▸ h3 g) hd
theorem passes_cx {CX : CXT} {N : List Str} {qual : Str} {scope : Scope} {f : Addr} {cd : Value} {A : Around} {outer : List Env} {s : Shared} {H : Hp} {E : XK} :
    PassesOwn (model P w) (cxOf CX P w K mg base N qual scope f cd A outer s H E).A (cxOf CX P w K mg base N qual scope f cd A outer s H E).env (cxOf CX P w K mg base N qual scope f cd A outer s H E).xe := passes_of rfl
theorem takes_cx {N : List Str} {qual : Str} {scope : Scope} {f : Addr} {cd : Value} {A : Around} {outer : List Env} {s : Shared} {H : Hp} {E : XK} :
    Takes (cxOf (L2.CX P w) P w K mg base N qual scope f cd A outer s H E) (fun cv dx _ H' => E cv dx H') := takes_of rfl rfl rfl rfl
end
end Dn
set_option linter.all false
namespace Dn
open PySem PySem.Spec PyProof.Rows L2
theorem hu1 {u : Nat} (h : u + 64 < cLine) : u + 1 < cLine := by omega
section
variable {P : Program} {w : World} {K : PySem.W.Frag} {mg : Str → Option Value} {base : Heap} {C : Ctx} {k : Nat}
theorem fn_bad {f : Addr} {fd : FuncData} {ps : List Str} {np : Nat} : FnOk P w K mg base (L2.CX P w) k f fd ps (spD C np fun _ _ => .bad) :=
  ⟨fun vs H Q E ⟨g, O, ds, _, _, _, h⟩ => h.elim, fun A outer s H args us vs Q E _ _ _ _ ⟨g, O, ds, _, _, _, h⟩ => h.elim⟩
theorem GF.bad {x : Str} {st : Stmt} {ps : List Str} (R : RawF K mg x st ps) : GF P w K mg base C x k ps.length fun _ _ => .bad := by
  obtain ⟨f, fd, F, hm, hb⟩ := R.ex
  exact ⟨f, fd, ps, rfl, fn_bad, hm, F.kp, hb⟩
theorem GM.bad {c : Nat} {m q : Str} {st : Stmt} {ps : List Str} (R : RawM K C c m q st ps) : GM P w K mg base C c m k ps.length fun _ _ => .bad := by
  obtain ⟨A, f, fd, h1, h2, F, hb⟩ := R.ex
  exact ⟨A, f, fd, ps, h1, h2, rfl, fn_bad, hb⟩
end
end Dn
namespace Dn
open PySem PySem.Spec PyProof.Rows L2
theorem blkX {N : List Str} {sc scope : Scope} {own : List (Str × Nat)} (h : blkC N sc scope own = true) : blkC N sc scope own = true := h
end Dn
set_option Elab.async false
set_option linter.all false
set_option maxRecDepth 100000
set_option maxHeartbeats 2000000
namespace Dn
open PySem PySem.Spec PyProof.Rows L2
section
variable {P : Program} {w : World} {K : PySem.W.Frag} {mg : Str → Option Value} {base h : Heap} {C : Dn.Ctx}
/-- a def as the top has written it -/
def FactF (K : PySem.W.Frag) (x q : Str) (st : Stmt) (f : Addr) : Prop := ∃ (oc : Value) (od an : Option Addr) (sl : Array (Option Value)) (kV dc pm cd ct : Value),
  K.lookup f = some ⟨oc, od, .func (PySem.W.fnOf x q (defArgs st) (defBody st) (defScope st) .none kV dc pm an cd ct), sl⟩ ∧ PySem.W.codeIn K cd q = true ∧ PySem.W.keepIn K (.ref f) = true
/-- how many arguments it takes -/
def BindOk (x q : Str) (st : Stmt) (ps : List Str) : Prop := ∀ (kV doc pm : Value) (an : Option Addr) (cdv ct : Value) (us : List Value), us.length = ps.length → bindArgs (PySem.W.fnOf x q (defArgs st) (defBody st) (defScope st) .none kV doc pm an cdv ct) ⟨us, []⟩ = pure (ps.zip us)
theorem rawF_mk {x : Str} {st : Stmt} {ps : List Str} {f : Addr} (X : K.In h) (G : h.Ns mainGlobals mg) (hb : BindOk x x st ps) (a : PySem.W.nsIn K mainGlobals x = some (some (.ref f))) (F : FactF K x x st f) : RawF K mg x st ps := by
  obtain ⟨oc, od, an, sl, kV, dc, pm, cd, ct, l, c, k⟩ := F
  exact ⟨f, _, fun_mk l c k, PySem.W.mg_of X G a, (fun_mk l c k).binds hb⟩
def FactC (K : PySem.W.Frag) (A : Addr) : Prop := PySem.W.plainGet K A Str.empty = true ∧ PySem.W.hasDictIn K A = true ∧ PySem.W.plainOver K A = true ∧ PySem.W.findIn K (.ref A) "__setattr__" = some (some (.builtin "object.__setattr__"))
theorem cls_mk {A : Addr} (F : FactC K A) : Cls K A := ⟨F.1, F.2.1, F.2.2.1, F.2.2.2⟩
theorem rawM_mk {c : Nat} {m q : Str} {st : Stmt} {ps : List Str} {A f : Addr} (hb : BindOk m q st ps) (hc : C.cl c = some A) (a : PySem.W.findIn K (.ref A) m = some (some (.ref f))) (i : PySem.W.isFn K (.ref f) = true) (F : FactF K m q st f) : RawM K C c m q st ps := by
  obtain ⟨oc, od, an, sl, kV, dc, pm, cd, ct, l, c', k⟩ := F
  exact ⟨A, f, _, hc, ⟨a, i, k⟩, fun_mk l c' k, (fun_mk l c' k).binds hb⟩
theorem rawK_mk {x q : Str} {c : Nat} {st : Stmt} {ps : List Str} {A f : Addr} (X : K.In h) (G : h.Ns mainGlobals mg) (hb : BindOk "__init__" q st ps) (hc : C.cl c = some A) (aC : PySem.W.nsIn K mainGlobals x = some (some (.ref A))) (mk : PySem.W.makesIn K A = true) (kc : PySem.W.keepIn K (.ref A) = true)
    (a : PySem.W.findIn K (.ref A) "__init__" = some (some (.ref f))) (i : PySem.W.isFn K (.ref f) = true) (F : FactF K "__init__" q st f) : RawK K mg C x c q st ps := by
  obtain ⟨oc, od, an, sl, kV, dc, pm, cd, ct, l, c', k⟩ := F
  exact ⟨A, f, _, hc, PySem.W.mg_of X G aC, ⟨mk, a, i, kc⟩, fun_mk l c' k, (fun_mk l c' k).binds hb⟩
/-- constants of the module -/
theorem cst_str {x : Str} {l : List Nat} {z : Str} {t : Tok} (X : K.In h) (G : h.Ns mainGlobals mg) (hz : z = ⟨l.toArray⟩) (a : PySem.W.nsIn K mainGlobals x = some (some (.str z t))) : Cst K mg x (.str l) :=
  ⟨_, .str z, PySem.W.mg_of X G a, ⟨t, rfl⟩, fun g => by subst hz; rfl⟩
theorem cst_int {x : Str} {i : Int} {t : Tok} (X : K.In h) (G : h.Ns mainGlobals mg) (a : PySem.W.nsIn K mainGlobals x = some (some (.int i t))) : Cst K mg x (.int i) :=
  ⟨_, .int i, PySem.W.mg_of X G a, ⟨t, rfl⟩, fun g => rfl⟩
/-- a tuple of texts -/
theorem cst_strs {x : Str} {ls : List (List Nat)} {zs : List Str} {p : Addr} {dd : Option Addr} {its : Array Value} {n : Nat} {sl : Array (Option Value)} (X : K.In h) (G : h.Ns mainGlobals mg) (a : PySem.W.nsIn K mainGlobals x = some (some (.ref p)))
    (l : K.lookup p = some ⟨.type "tuple", dd, .seq its n, sl⟩) (hz : zs = ls.map fun l => ⟨l.toArray⟩) (hi : Paired (fun (z : Str) (u : Value) => ∃ t, u = Value.str z t) zs its.toList) (hl : its.size ≤ sizeLine) : Cst K mg x (.tup (ls.map D.str)) := by
  refine ⟨_, .ref p, PySem.W.mg_of X G a, rfl, fun g => ?_⟩
  simp only [Shr]
  refine ⟨p, zs.map V.str, rfl, .inr ⟨_, its, n, l, rfl, rfl, hl, ?_⟩, ?_⟩
  · clear l
    generalize its.toList = us at hi
    clear hz
    induction hi with
    | nil => exact .nil
    | cons r _ ih => exact .cons r ih
  · subst hz
    clear hi
    induction ls with
    | nil => simp [ShrL]
    | cons y ys ih =>
      simp only [List.map_cons, ShrL]
      exact ⟨_, _, rfl, rfl, ih⟩
/-! ### the end -/
/-- law's promise: at most 63 ints in, True out -/
def spLaw (K : PySem.W.Frag) : Sp := fun vs H Q _ => ∃ (a : Addr) (ns : List Int), vs = [.ref a] ∧ SqL K H a (ns.map V.int) ∧ ns.length ≤ 63 ∧ ∀ H', Q (.bl true) H'
theorem law_imp {CX : CXT} {k : Nat} {f : Addr} {fd : FuncData} {x : Str} {fn : Fn} (hK : C.K = K) (main : ∀ ns : List Int, ns.length ≤ 63 → ∃ O, fn [.scr (ns.map D.int)] [] = .ok (.bl true) O) (F : FnOk P w K mg base CX k f fd [x] (spD C 1 fn)) :
    FnOk P w K mg base CX k f fd [x] (spLaw K) := F.imp fun vs H Q E ⟨a, ns, h1, h2, h3, h4⟩ => by
  subst h1
  obtain ⟨O, e⟩ := main ns h3
  refine ⟨⟨H, fun _ => 0, 0⟩, [], [.scr (ns.map D.int)], rfl, ⟨rfl, fun _ _ h => h, fun l c e => by simp at e, fun l hl => absurd hl (Nat.not_lt_zero _), fun i j hi => absurd hi (Nat.not_lt_zero _)⟩, ?_, ?_⟩
  · simp only [ShrL, Shr]
    exact ⟨_, [], rfl, ⟨a, ns.map V.int, rfl, hK ▸ h2, shrL_ints ns⟩, rfl⟩
  · rw [e]
    intro v g' H' _ _ s
    have s : v = .bl true := s
    subst s
    exact h4 H'
theorem cx_none {s : Shared} {e : Value} {s' : Shared} {H : Hp} : L2.CX P w [] H s (fun _ _ _ => False) e s' → False := fun hx => by
  obtain ⟨_, _, _, _, _, _, _, _, _, _, _, _, z⟩ := hx
  exact z.elim
theorem walkD {l : PySem.W.OpenLaw} {q : Program} {loose : List Str} {XP : (Str → Option Value) → Heap → Prop} {YP : World → Heap → Prop} {d : DefRec} {K : Params → PySem.W.Frag} {x : Str} {k : Nat} (hn : l.most = some 63) (hdf : d.params.defaults = []) (hr : Room k callerA)
    (hY : ∀ (w : World) (h : Heap), YP w h → (K w.params).In h)
    (F : ∀ (w : World) (mg : Str → Option Value) (fa : Addr) (h : Heap), (K w.params).In h → h.Ns mainGlobals mg → mg d.name = some (.ref fa) →
      ∃ fd : FuncData, (∀ (s : Shared) (u : Value), BindsTo s fd ⟨[u], []⟩ [(x, u)]) ∧ ∀ base : Heap, (K w.params).In base → base.Ns mainGlobals mg → FnOk l.prog w (K w.params) mg base (L2.CX l.prog w) k fa fd [x] (spLaw (K w.params))) :
    PySem.W.WalkO q loose XP YP l.row.toRowW d [] (fun f vs => PySem.call f vs) :=
  L2.walk_of (n := 63) (k := k) (x := x) (CX := fun w => L2.CX l.prog w) (sp := fun w => spLaw (K w.params)) hn (by decide) hdf hr hY F (fun _ _ a ns hl _ hS => ⟨a, ns, rfl, hS, hl, fun _ => rfl⟩) fun _ _ _ _ _ z => cx_none z
/-- the law's own def, from all -/
theorem law_end {x : Str} {st : Stmt} {k : Nat} {fn : Fn} {fa : Addr} (hK : C.K = K) (X : K.In h) (G : h.Ns mainGlobals mg) (hfa : mg "law" = some (.ref fa)) (hb : BindOk "law" "law" st [x]) {f : Addr} (a : PySem.W.nsIn K mainGlobals "law" = some (some (.ref f))) (F : FactF K "law" "law" st f)
    (main : ∀ ns : List Int, ns.length ≤ 63 → ∃ O, fn [.scr (ns.map D.int)] [] = .ok (.bl true) O)
    (ok : ∀ base : Heap, K.In base → base.Ns mainGlobals mg → ∀ fd, Fun K "law" "law" st f fd → FnOk P w K mg base (L2.CX P w) k f fd [x] (spD C 1 fn)) :
    ∃ fd : FuncData, (∀ (s : Shared) (u : Value), BindsTo s fd ⟨[u], []⟩ [(x, u)]) ∧ ∀ base : Heap, K.In base → base.Ns mainGlobals mg → FnOk P w K mg base (L2.CX P w) k fa fd [x] (spLaw K) := by
  have e := hfa.symm.trans (PySem.W.mg_of X G a)
  cases e
  obtain ⟨oc, od, an, sl, kV, dc, pm, cd, ct, l, c', k⟩ := F
  refine ⟨_, fun s u => .of_eq (hb kV dc pm an cd ct [u] rfl), fun base B1 B2 => law_imp hK main (ok base B1 B2 _ (fun_mk l c' k))⟩
end
end Dn
set_option Elab.async false
set_option linter.all false
set_option maxRecDepth 100000
set_option maxHeartbeats 2000000
namespace Dn
open PySem PySem.Spec PyProof.Rows L2
section
variable {C : Ctx} {X : Cx} {W : WX} {pos px py pz pt : Pos} {fas : Rho → Sto → Res (List D)}
/-! ### several names at once -/
def parS (i j : Nat) (fas : Rho → Sto → Res (List D)) : DS0 := fun r O => (fas r O).bindS r fun ds O1 => match ds with | [a, b] => .nx ((r.set i (some a)).set j (some b)) O1 | _ => .bad
theorem s_par (i j : Nat) {x y : Str} {a b : Expr} {kt k2 pt2} (hc : X.calm = true) (hN : X.N.Nodup) (ha : DA C X W [a, b] fas) (hi : X.N[i]? = some x := by rfl) (hj : X.N[j]? = some y := by rfl) (hij : i ≠ j := by decide)
    (hx : X.env.scope.names.lookup x = some .local := by first | rfl | assumption) (hy : X.env.scope.names.lookup y = some .local := by first | rfl | assumption)
    (hw : swappedStores [.Tuple [.Name x px, .Name y py] kt pt] (.Tuple [a, b] k2 pt2) X.env = pure (some [x, y]) := by rfl)
    (hs : swapsWithSole [.Tuple [.Name x px, .Name y py] kt pt] (.Tuple [a, b] k2 pt2) pos.line X.env = pure false := by rfl) :
    DS C X W (.Assign [.Tuple [.Name x px, .Name y py] kt pt] (.Tuple [a, b] k2 pt2) pos) (parS i j fas) :=
  let ⟨_, p, s⟩ := ha.ex
  ⟨_, ps_par hc hN hi hj hij hx hy p hw hs, fun g σ H r O R S E h => s.seqS R S h fun ds O1 vs g1 H1 e1 R1 S1 s1 h1 => by
    have s1 : ShrL C.K g1 ds vs := s1
    match ds, s1, h1 with
    | [], _, h1 => exact h1.elim
    | [_], _, h1 => exact h1.elim
    | _ :: _ :: _ :: _, _, h1 => exact h1.elim
    | [d1, d2], s1, h1 =>
      simp only [ShrL] at s1
      obtain ⟨v, q, rfl, sv, w, q2, rfl, sw, rfl⟩ := s1
      exact ⟨v, w, rfl, h1 _ g1 H1 (Ext.refl R1) R1 ((S1.set sv).set sw)⟩⟩
def parS3 (i j l : Nat) (fas : Rho → Sto → Res (List D)) : DS0 := fun r O => (fas r O).bindS r fun ds O1 => match ds with | [a, b, c] => .nx (((r.set i (some a)).set j (some b)).set l (some c)) O1 | _ => .bad
theorem s_par3 (i j l : Nat) {x y z : Str} {a b c : Expr} {kt k2 pt2} (hc : X.calm = true) (hN : X.N.Nodup) (ha : DA C X W [a, b, c] fas) (hi : X.N[i]? = some x := by rfl) (hj : X.N[j]? = some y := by rfl) (hl : X.N[l]? = some z := by rfl) (hij : i ≠ j := by decide) (hil : i ≠ l := by decide) (hjl : j ≠ l := by decide)
    (hx : X.env.scope.names.lookup x = some .local := by first | rfl | assumption) (hy : X.env.scope.names.lookup y = some .local := by first | rfl | assumption) (hz : X.env.scope.names.lookup z = some .local := by first | rfl | assumption)
    (hw : swappedStores [.Tuple [.Name x px, .Name y py, .Name z pz] kt pt] (.Tuple [a, b, c] k2 pt2) X.env = pure (some [x, y, z]) := by rfl)
    (hs : swapsWithSole [.Tuple [.Name x px, .Name y py, .Name z pz] kt pt] (.Tuple [a, b, c] k2 pt2) pos.line X.env = pure false := by rfl) :
    DS C X W (.Assign [.Tuple [.Name x px, .Name y py, .Name z pz] kt pt] (.Tuple [a, b, c] k2 pt2) pos) (parS3 i j l fas) :=
  let ⟨_, p, s⟩ := ha.ex
  ⟨_, ps_par3 hc hN hi hj hl hij hil hjl hx hy hz p hw hs, fun g σ H r O R S E h => s.seqS R S h fun ds O1 vs g1 H1 e1 R1 S1 s1 h1 => by
    have s1 : ShrL C.K g1 ds vs := s1
    match ds, s1, h1 with
    | [], _, h1 => exact h1.elim
    | [_], _, h1 => exact h1.elim
    | [_, _], _, h1 => exact h1.elim
    | _ :: _ :: _ :: _ :: _, _, h1 => exact h1.elim
    | [d1, d2, d3], s1, h1 =>
      simp only [ShrL] at s1
      obtain ⟨v, q, rfl, sv, w, q2, rfl, sw, u, q3, rfl, su, rfl⟩ := s1
      exact ⟨v, w, u, rfl, h1 _ g1 H1 (Ext.refl R1) R1 (((S1.set sv).set sw).set su)⟩⟩
/-! ### what is never reached -/
def badS : DS0 := fun _ _ => .bad
def badE : DE0 := fun _ _ => .bad
theorem s_bad {st : Stmt} : DS C X W st badS := ⟨fun _ _ _ => False, ⟨fun _ _ _ _ _ _ h => h.elim⟩, fun _ _ _ _ _ _ _ _ h => h.elim⟩
theorem e_bad {e : Expr} : DE C X W e badE := ⟨fun _ _ _ => False, ⟨fun _ _ _ _ _ _ h => h.elim⟩, fun _ _ _ _ _ _ _ _ h => h.elim⟩
end
end Dn
set_option Elab.async false
set_option linter.all false
set_option maxRecDepth 100000
set_option maxHeartbeats 2000000
namespace Dn
open PySem PySem.Spec PyProof.Rows L2
/-- texts of a list -/
def strsD : List D → Option (List (List Nat))
  | [] => some []
  | .str x :: ds => match strsD ds with | some ys => some (x :: ys) | none => none
  | _ :: _ => none
section
variable {C : Ctx} {X : Cx} {W : WX} {g : G}
abbrev mkS (x : List Nat) : Str := ⟨x.toArray⟩
theorem tl_mkS (x : List Nat) : TL.tl (mkS x) = x := rfl
theorem map_tl_mkS : ∀ ys : List (List Nat), (ys.map mkS).map TL.tl = ys
  | [] => rfl
  | y :: ys => by rw [List.map_cons, List.map_cons, map_tl_mkS ys]
theorem shrL_strs {K : PySem.W.Frag} : ∀ {ds : List D} {ys : List (List Nat)} {vs : List V}, strsD ds = some ys → ShrL K g ds vs → vs = (ys.map mkS).map V.str
  | [], ys, vs, e, s => by simp [strsD] at e; subst e; simp only [ShrL] at s; rw [s]; first | rfl | done
  | d :: ds, ys, vs, e, s => by
    cases d with
    | str x =>
      simp only [strsD] at e
      split at e
      · rename_i zs ez
        cases e
        simp only [ShrL] at s
        obtain ⟨v, q, rfl, sv, sq⟩ := s
        cases sv
        rw [shrL_strs ez sq]; rfl
      · cases e
    | _ => simp [strsD] at e
theorem strs_shrL {K : PySem.W.Frag} : ∀ (ys : List (List Nat)), ShrL K g (ys.map D.str) ((ys.map mkS).map V.str)
  | [] => by simp [ShrL]
  | y :: ys => by simp only [List.map_cons, ShrL]; exact ⟨_, _, rfl, rfl, strs_shrL ys⟩
/-- s.join(xs) -/
def joinF : D → List D → Sto → ER := fun d ds O => match d, ds with
  | .str a, [x] => (match seqR x O with
    | some xs => (match strsD xs with | some ys => if (ys.map (·.length)).sum + ys.length * a.length ≤ 16777216 then .ok (.str (TL.joinL a ys)) O else .bad | none => .bad)
    | none => .bad)
  | _, _ => .bad
theorem s_join : SatM C W (fun x xs H Q => ∃ a p, ∃ ys : List Str, x = .str a ∧ xs = [.ref p] ∧ (SqL C.K H p (ys.map V.str) ∨ SqT C.K H p (ys.map V.str)) ∧
    (ys.map (·.length)).sum + ys.length * a.length ≤ 16777216 ∧ Q (.str (Txt.join a ys)) H) joinF := by
  intro g H O R d ds v vs s sl σ Q h
  unfold joinF at h
  split at h
  · rename_i a x
    cases s
    obtain ⟨w, rfl, sy⟩ := shrL_one sl
    split at h
    · rename_i xs e
      split at h
      · rename_i ys ey
        split at h
        · rename_i hz
          obtain ⟨p, ws, rfl, h2, h3⟩ := seqR_of R sy e
          have h4 := shrL_strs ey h3
          subst h4
          refine ⟨mkS a, p, ys.map mkS, rfl, rfl, h2, ?_, ?_⟩
          · rw [List.map_map, List.length_map]
            have : (fun z : Str => z.length) ∘ mkS = List.length := by funext z; simp [mkS, Str.length]
            show (ys.map ((fun z : Str => z.length) ∘ mkS)).sum + ys.length * (mkS a).length ≤ 16777216
            rw [this]
            have h5 : (mkS a).length = a.length := by simp [mkS, Str.length]
            rw [h5]; exact hz
          · refine h _ g H (Ext.refl R) R ?_
            show V.str (Txt.join (mkS a) (ys.map mkS)) = .str (mkS (TL.joinL a ys))
            congr 1
            refine TL.ext_tl ?_
            rw [TL.join_eq, TL.tl_join, map_tl_mkS]
        · exact h.elim
      · exact h.elim
    · exact h.elim
  · exact h.elim
/-- s.split(t) -/
def splitF (m : Bool) : D → List D → Sto → ER := fun d ds O => match d, ds with
  | .str a, [.str b] => if decide (b ≠ []) && b.all (· < 256) && decide (a.length ≤ 16000000) then mkL m ((TL.spl b 0 [] a).map D.str) O else .bad
  | _, _ => .bad
theorem s_split (m : Bool) : SatM C W (fun x xs H Q => ∃ a b, x = .str a ∧ xs = [.str b] ∧ (b.length == 0) = false ∧ a.length + 2 ≤ sizeLine ∧ rNewStrs (Txt.split a b) H Q) (splitF m) := by
  intro g H O R d ds v vs s sl σ Q h
  unfold splitF at h
  split at h
  · rename_i a b
    cases s
    obtain ⟨w, rfl, sy⟩ := shrL_one sl
    cases sy
    split at h
    · rename_i hc
      simp only [Bool.and_eq_true, decide_eq_true_eq] at hc
      obtain ⟨⟨hb, hk⟩, hz⟩ := hc
      have hlen : ∀ z : List Nat, (mkS z).length = z.length := fun z => by simp [mkS, Str.length]
      refine ⟨mkS a, mkS b, rfl, rfl, ?_, ?_, fun p hp => ?_⟩
      · rw [hlen]
        cases b with
        | nil => exact absurd rfl hb
        | cons => rfl
      · rw [hlen]
        have : sizeLine = 2 ^ 24 := rfl
        rw [this]; omega
      · have e := TL.split_spl (mkS a) (mkS b) hb (TL.kind_ok (by rw [← Array.all_toList]; exact hk))
        have e2 : Txt.split (mkS a) (mkS b) = (TL.spl b 0 [] a).map mkS := TL.map_tl_inj (by rw [e, map_tl_mkS])
        rw [e2]
        exact new_lst R (strs_shrL _) h hp
    · exact h.elim
  · exact h.elim
/-- s * n -/
def mulSD : O2 := fun a b O => match a, b with
  | .str x, .int k => if decide (x ≠ []) && decide (2 ≤ k) && decide (k ≤ 1000) && decide (x.length ≤ 1000) then .ok (.str (List.replicate k.toNat x).flatten) O else .bad
  | _, _ => .bad
def rRepS : R2 := fun x y H Q => ∃ (a : List Nat) (k : Int), x = .str (mkS a) ∧ y = .int k ∧ a ≠ [] ∧ 2 ≤ k ∧ k ≤ 1000 ∧ a.length ≤ 1000 ∧ Q (.str (mkS (List.replicate k.toNat a).flatten)) H
theorem fold_app (a : Array Nat) : ∀ (n : Nat) (b : Array Nat), ((List.replicate n a).foldl (· ++ ·) b) = (b.toList ++ (List.replicate n a.toList).flatten).toArray
  | 0, b => by simp
  | n + 1, b => by
    rw [List.replicate_succ, List.foldl_cons, fold_app a n, List.replicate_succ, List.flatten_cons]
    simp
theorem op_repS : OpR X (binaryOp .Mult) rRepS := by
  intro pins s σ H x y v u Q I rx ry h
  obtain ⟨a, k, rfl, rfl, hne, h1, h2, h3, q⟩ := h
  obtain ⟨t, rfl⟩ := rx
  obtain ⟨t', rfl⟩ := ry
  have hl : (mkS a).length = a.length := by simp [mkS, Str.length]
  have h0 : a.length ≠ 0 := fun e => hne (List.eq_nil_of_length_eq_zero e)
  refine P.mul_str ?_ ?_ ?_ ?_
  · rw [decide_eq_false (by omega), decide_eq_false (by omega)]; rfl
  · intro _ _ hh
    rw [hl] at hh
    have h4 : (9223372036854775807 : Int) / k * 1000 ≥ 0 := by
      have : (0 : Int) ≤ 9223372036854775807 / k := Int.ediv_nonneg (by omega) (by omega)
      omega
    have h5 : (1000 : Int) ≤ 9223372036854775807 / k := by
      refine (Int.le_ediv_iff_mul_le (by omega)).mpr ?_
      omega
    have h6 : ((2 : Int) ^ 63 - 1) = 9223372036854775807 := by decide
    rw [h6] at hh
    omega
  · intro _ _
    rw [hl]
    have h4 : a.length * k.toNat ≤ 1000 * 1000 := Nat.mul_le_mul h3 (by omega)
    simp only [Builtin.Str.tooLong, decide_eq_false_iff_not]
    have : sizeLine = 2 ^ 24 := rfl
    omega
  · rw [if_neg (by omega)]
    have hb : (k == 1 || (mkS a).length == 0) = false := by
      rw [hl, Bool.or_eq_false_iff]
      exact ⟨beq_eq_false_iff_ne.mpr (by omega), beq_eq_false_iff_ne.mpr h0⟩
    rw [if_neg (by rw [hb]; decide)]
    have e : (⟨(List.replicate k.toNat (mkS a).cps).foldl (· ++ ·) #[]⟩ : Str) = mkS (List.replicate k.toNat a).flatten := by
      rw [fold_app]; simp [mkS]
    rw [e]
    have h4 : k.toNat * a.length ≤ 1000 * 1000 := Nat.mul_le_mul (by omega) h3
    refine ⟨?_, ⟨.str (mkS (List.replicate k.toNat a).flatten), H, I.tok _, ⟨s.toks, rfl⟩, q⟩⟩
    have h7 : (mkS (List.replicate k.toNat a).flatten).length = k.toNat * a.length := by simp [mkS, Str.length]
    have : sizeLine = 2 ^ 24 := rfl
    rw [h7, this]; omega
theorem s_mulS : Sat2 C W rRepS mulSD := by
  intro g H O R a b x y sx sy σ Q h
  unfold mulSD at h
  split at h
  · cases sx; cases sy
    split at h
    · rename_i hc
      simp only [Bool.and_eq_true, decide_eq_true_eq] at hc
      exact ⟨_, _, rfl, rfl, hc.1.1.1, hc.1.1.2, hc.1.2, hc.2, Post.fin R rfl h⟩
    · exact h.elim
  · exact h.elim
variable {o e : Expr} {fo fa fb : DE0} {apos cpos pos : Pos} {a b : Expr} {fas : Rho → Sto → Res (List D)}
theorem e_mulS (ha : DE C X W a fa) (hb : DE C X W b fb) : DE C X W (.BinOp a .Mult b pos) (op2 mulSD fa fb) := d_op op_repS s_mulS ha hb
theorem e_join (hK : X.K = C.K) (ho : DE C X W o fo) (ha : DA C X W [e] fas)
    (hbase : attributeBase o "join" X.env (eval o X.env) = eval o X.env := by rfl)
    (hfew : ((backTo cpos (starEach [e] X.env)).all (fun x => !x.1) && (backToKw cpos (keywordEach [] X.env)).all (fun x => x.1.isSome)
      && decide ([e].length + ([] : List Keyword).length + (if ([] : List Keyword).isEmpty then 0 else 1) < 30)) = true := by rfl)
    (hline : (apos.endLine == cpos.line) = true := by rfl) (hs : starEach [e] X.env = (false, eval e X.env) :: starEach [] X.env := by rfl) (hplain : (backTo cpos (starEach [] X.env)).any (·.1) = false := by rfl) :
    DE C X W (.Call (.Attribute o "join" apos) [e] [] cpos) (bmE tyStr joinF fo fas) :=
  d_bm hK PySem.F.plainAttrs_str PySem.F.slot_str_join PySem.F.type_str_join mt_join (by rw [hK]; exact s_join) ty_str ho ha hbase hfew hline hs hplain
theorem e_split (m : Bool) (hK : X.K = C.K) (ho : DE C X W o fo) (ha : DA C X W [e] fas)
    (hbase : attributeBase o "split" X.env (eval o X.env) = eval o X.env := by rfl)
    (hfew : ((backTo cpos (starEach [e] X.env)).all (fun x => !x.1) && (backToKw cpos (keywordEach [] X.env)).all (fun x => x.1.isSome)
      && decide ([e].length + ([] : List Keyword).length + (if ([] : List Keyword).isEmpty then 0 else 1) < 30)) = true := by rfl)
    (hline : (apos.endLine == cpos.line) = true := by rfl) (hs : starEach [e] X.env = (false, eval e X.env) :: starEach [] X.env := by rfl) (hplain : (backTo cpos (starEach [] X.env)).any (·.1) = false := by rfl) :
    DE C X W (.Call (.Attribute o "split" apos) [e] [] cpos) (bmE tyStr (splitF m) fo fas) :=
  d_bm hK PySem.F.plainAttrs_str PySem.F.slot_str_split PySem.F.type_str_split mt_split (s_split m) ty_str ho ha hbase hfew hline hs hplain
end
end Dn
set_option Elab.async false
set_option linter.all false
set_option maxRecDepth 100000
set_option maxHeartbeats 2000000
namespace Dn
open PySem PySem.Spec PyProof.Rows L2
section
variable {C : Ctx} {X : Cx} {W : WX} {o e : Expr} {fo : DE0} {fas : Rho → Sto → Res (List D)} {apos cpos : Pos}
def startswithF : D → List D → Sto → ER := fun d ds O => match d, ds with
  | .str a, [.str b] => .ok (.bl (decide (b.length ≤ a.length) && (a.take b.length == b))) O
  | _, _ => .bad
theorem s_startswith : SatM C W (fun x xs H Q => ∃ a b, x = .str a ∧ xs = [.str b] ∧ Q (.bl (Txt.startswith a b)) H) startswithF := by
  intro g H O R d ds v vs s sl σ Q h
  unfold startswithF at h
  split at h
  · rename_i a b
    cases s
    obtain ⟨w, rfl, sy⟩ := shrL_one sl
    cases sy
    refine ⟨mkS a, mkS b, rfl, rfl, ?_⟩
    have hlen : ∀ z : List Nat, (mkS z).length = z.length := fun z => by simp [mkS, Str.length]
    have e : Txt.startswith (mkS a) (mkS b) = (decide (b.length ≤ a.length) && (a.take b.length == b)) := by
      unfold Txt.startswith
      rw [StrLaws.subAt_eq, hlen, hlen, Nat.zero_add]
      rfl
    rw [e]
    exact Post.fin R rfl h
  · exact h.elim
theorem e_startswith (hK : X.K = C.K) (ho : DE C X W o fo) (ha : DA C X W [e] fas)
    (hbase : attributeBase o "startswith" X.env (eval o X.env) = eval o X.env := by rfl)
    (hfew : ((backTo cpos (starEach [e] X.env)).all (fun x => !x.1) && (backToKw cpos (keywordEach [] X.env)).all (fun x => x.1.isSome)
      && decide ([e].length + ([] : List Keyword).length + (if ([] : List Keyword).isEmpty then 0 else 1) < 30)) = true := by rfl)
    (hline : (apos.endLine == cpos.line) = true := by rfl) (hs : starEach [e] X.env = (false, eval e X.env) :: starEach [] X.env := by rfl) (hplain : (backTo cpos (starEach [] X.env)).any (·.1) = false := by rfl) :
    DE C X W (.Call (.Attribute o "startswith" apos) [e] [] cpos) (bmE tyStr startswithF fo fas) :=
  d_bm hK PySem.F.plainAttrs_str PySem.F.slot_str_startswith PySem.F.type_str_startswith mt_startswith s_startswith ty_str ho ha hbase hfew hline hs hplain
end
end Dn
set_option Elab.async false
set_option linter.all false
set_option maxRecDepth 100000
set_option maxHeartbeats 2000000
namespace Dn
open PySem PySem.Spec PyProof.Rows L2
section
variable {C : Ctx} {X : Cx} {W : WX} {A : Addr} {bmB : List Value} {B newId initId : String} {x : Str} {p pos pos' : Pos}
/-- raise X(), an own class without own __init__, no arguments -/
theorem pmk_own0 (F : ExcBaseFacts B newId initId bmB) (q : PySem.W.excIn X.K A bmB newId = true) (gC : X.mg x = some (.ref A)) (kC : PySem.W.keepIn X.K (.ref A) = true) (r : Raises X (.ref A)) (hg : Gl X x)
    (hdb : (x == ("__debug__" : Str)) = false := by decide) : PMk X (.Call (.Name x p) [] [] pos) (fun _ H Q => Q (.ref A) none H) := by
  intro pins s σ H Q I h
  refine wpAny_Call_Name_kw (ld_glob I hg gC ?_ hdb)
  refine PySem.W.callWith_K0 I.kIn kC ?_
  obtain ⟨_, _, _, _, _, _, _, _, _, _, _, _, _, _, _, _, _, hObj, hSpace, noInit, hTail⟩ := exc_obj I.kIn q
  refine wpAny_call_exc_subT F hTail hObj hSpace noInit (fun h' e hm => ?_) (by show 0 ≤ sizeLine; exact Nat.zero_le _)
  exact mk_of I hm r h (I.hok.gone hm.new)
/-- what is known of an own error's class -/
structure ExcF (K : PySem.W.Frag) (A : Addr) : Prop where
  q : PySem.W.excIn K A [.type "ValueError", .type "Exception", .type "BaseException", .type "object"] "ValueError.__new__" = true
  keep : PySem.W.keepIn K (.ref A) = true
  sub : PySem.W.subIn K (.ref A) (.type "BaseException") = some true
  ty : PySem.W.typeIn K (.ref A) = some (.type "type")
def raiseS (i : Nat) : DS0 := fun r O => .exc ⟨i, []⟩ r O
theorem s_raise0 (i : Nat) (hc : X.calm = true) (tk : Takes X W) (hK : X.K = C.K) (he : C.ec i = some A) (F : ExcF C.K A) (gC : X.mg x = some (.ref A)) (hg : Gl X x := by rfl)
    (hdb : (x == ("__debug__" : Str)) = false := by decide) : DS C X W (.Raise (some (.Call (.Name x p) [] [] pos)) none pos') (raiseS i) :=
  ⟨_, ps_raise hc tk (pmk_own0 PySem.F.excBase_ValueError (hK ▸ F.q) gC (hK ▸ F.keep) (raises_own (hK ▸ F.sub) (hK ▸ F.ty)) hg hdb), fun g σ H r O R S E h => by
    exact h _ _ _ _ _ (Ext.refl R) R S ⟨A, he, rfl, .inl ⟨rfl, rfl⟩⟩⟩
theorem PSs.imp {st : List Stmt} {t t' : TS} (h : PSs X st t) (i : ∀ E σ H, t' E σ H → t E σ H) : PSs X st t' := ⟨fun pins s σ H D I q => h.run pins s σ H D I (i D σ H q)⟩
/-- the least that a row of statements asks -/
def tOf (C : Ctx) (W : WX) (f : DS0) : TS := fun E σ H => ∃ g r O, RepO C g H O ∧ RepS C g σ r ∧ PostS C W g H (f r O) E
theorem pss_of {st : List Stmt} {f : DS0} (h : DSs C X W st f) : PSs X st (tOf C W f) :=
  let ⟨_, p, s⟩ := h.ex
  PSs.imp p fun E σ H ⟨g, r, O, R, S, q⟩ => s g σ H r O R S E q
abbrev noW : WX := fun _ _ _ _ => False
/-- try: .. except X: .. (no error leaves the clause) -/
def tryS (i : Nat) (f h : DS0) : DS0 := fun r O => match f r O with
  | .exc e r1 O1 => if e.cls = i then (match h r1 O1 with | .exc _ _ _ => .bad | y => y) else .exc e r1 O1
  | y => y
theorem s_try (i : Nat) {c : Value} {np : Pos} {b₀ : Stmt} {body suite : List Stmt} {f h : DS0} (hs : X.stack = X.env :: X.outer) (hf : X.env.frame = some X.env.locals) (hK : X.K = C.K) (hc : Names X x c) (tk : Takes X W)
    (hm : ∀ j A', C.ec j = some A' → PySem.W.exmOne C.K (.ref A') c = some (decide (j = i)))
    (hb : ∀ (W' : WX) (pn : List (Addr × Obj)) (xe : Value → Shared → Prop), Takes (X.tr pn xe) W' → PassesOwn (model X.prog X.w) X.A X.env xe → DSs C (X.tr pn xe) W' body f)
    (hsu : ∀ (a : Addr) (pn : List (Addr × Obj)), DSs C (X.suite a pn) noW (b₀ :: suite) h) :
    DS C X W (.Try body [.ExceptHandler (some (.Name x np)) none (b₀ :: suite) pos'] [] [] pos) (tryS i f h) :=
  ⟨_, ps_try_only (tb := fun W' => tOf C W' f) (ts := fun _ _ _ => tOf C noW h) (Wout := W) hs hf hc tk (fun W' pn xe t p => pss_of (hb W' pn xe t p)) (fun a oe cls d pn _ _ => pss_of (hsu a _)), fun g σ H r O R S E q => by
    refine ⟨g, r, O, R, S, ?_⟩
    unfold tryS at q
    cases z : f r O with
    | nx r1 O1 => rw [z] at q; exact q
    | ret d O1 => rw [z] at q; exact q
    | bk r1 O1 => rw [z] at q; exact q
    | ct r1 O1 => rw [z] at q; exact q
    | bad => rw [z] at q; exact q
    | exc e r1 O1 =>
      rw [z] at q
      intro cv dx σ' g' H' ex R' S' er
      obtain ⟨A', h1, rfl, h3⟩ := er
      refine ⟨decide (e.cls = i), by rw [hK]; exact hm _ _ h1, fun hb a _ => ?_, fun hb => ?_⟩
      · simp only [decide_eq_true_eq] at hb
        dsimp only at q
        rw [if_pos hb] at q
        refine ⟨g', r1, O1, R', S', ?_⟩
        cases y : h r1 O1 with
        | exc _ _ _ => rw [y] at q; exact q.elim
        | nx _ _ => rw [y] at q; exact PostS.shift (x := .nx _ _) ex q
        | ret _ _ => rw [y] at q; exact PostS.shift (x := .ret _ _) ex q
        | bk _ _ => rw [y] at q; exact PostS.shift (x := .bk _ _) ex q
        | ct _ _ => rw [y] at q; exact PostS.shift (x := .ct _ _) ex q
        | bad => rw [y] at q; exact q
      · simp only [decide_eq_false_iff_not] at hb
        dsimp only at q
        rw [if_neg hb] at q
        exact q _ _ _ _ _ ex R' S' ⟨A', h1, rfl, h3⟩⟩
end
end Dn
set_option Elab.async false
set_option linter.all false
set_option maxRecDepth 100000
set_option maxHeartbeats 2000000
namespace Dn
open PySem PySem.Spec PyProof.Rows L2
section
variable {C : Ctx} {X : Cx} {W : WX} {o e f : Expr} {fo : DE0} {fas : Rho → Sto → Res (List D)} {apos cpos pos : Pos}
/-! ### {}, d.get(k, x) -/
def dic0E : DE0 := fun _ O => .ok (.ob O.length) (O ++ [.dic []])
theorem d_dict0 : DE C X W (.Dict [] [] pos) dic0E :=
  ⟨_, pe_dnewK, fun g σ H r O R S Q h p hp => by
    have hk : ∀ a o, H a = some o → upd H p (.dK []) a = some o := fun a o e => by rw [upd_ne (ne_of_none e hp)]; exact e
    refine h _ (g.add p) _ (Ext.add R hp hk) (R.add hp hk ⟨[], upd_same, by simp [ShrK]⟩) ?_
    show Shr _ _ (.ob O.length) _
    simp only [Shr]
    rw [← R.n, G.add_at]
    exact ⟨rfl, Nat.lt_succ_self _⟩⟩
def get2D (d k x : D) (O : Sto) : ER := match dicOf d O, keyD k with
  | some (_, kvs), some k => .ok ((getK kvs k).getD x) O
  | _, _ => .bad
def getE2 (fo fa fb : DE0) : DE0 := fun r O => (fo r O).bind fun d O1 => if tyDic d O1 then (fa r O1).bind fun k O2 => (fb r O2).bind fun x O3 => get2D d k x O3 else .bad
theorem e_get2 {fa fb : DE0} (hu : X.A.units + 1 < cLine) (ho : DE C X W o fo) (ha : DE C X W e fa) (hb : DE C X W f fb) (m : M2 X o "get" apos e f cpos := by exact ⟨rfl, rfl, rfl, rfl⟩) :
    DE C X W (.Call (.Attribute o "get" apos) [e, f] [] cpos) (getE2 fo fa fb) :=
  let ⟨_, po, so⟩ := ho.ex; let ⟨_, pa, sa⟩ := ha.ex; let ⟨_, pb, sb⟩ := hb.ex
  ⟨_, pe_dget2 hu po pa pb m, fun g σ H r O R S Q h => so.seq R S h fun d O1 v g1 H1 e1 R1 S1 s1 h1 => by
    split at h1
    · rename_i hy
      unfold tyDic at hy
      cases q : dicOf d O1 with
      | none => rw [q] at hy; cases hy
      | some lk =>
        obtain ⟨l, kvs⟩ := lk
        obtain ⟨rfl, _, _, ws, h2, _⟩ := dicOf_of R1 s1 q
        refine ⟨_, rfl, .inl ⟨ws, .inl h2⟩, sa.seq R1 S1 h1 fun k O2 kv g2 H2 e2 R2 S2 s2 h3 => sb.seq R2 S2 h3 fun x O3 xv g3 H3 e3 R3 S3 s3 h4 => ?_⟩
        have h4 : Post C W σ g3 H3 (get2D d k x O3) Q := h4
        unfold get2D at h4
        split at h4
        · rename_i l' kvs' k' eq1 eq2
          have sd := (s1.mono e2.le).mono e3.le
          obtain ⟨hv, _, _, ws', h5, h6⟩ := dicOf_of R3 sd eq1
          have hkk := keyD_of s2 eq2
          subst hkk
          obtain ⟨a1, a2⟩ := shrK_get (k := k') h6
          cases z : getK kvs' k' with
          | some y =>
            obtain ⟨u, b1, b2⟩ := a1 y z
            rw [z] at h4
            refine ⟨some u, ?_, Post.fin R3 b2 h4⟩
            rw [← b1]
            rw [show g1.θ l = g3.θ l' from by injection hv]
            exact DGet.k h5
          | none =>
            rw [z] at h4
            refine ⟨none, ?_, Post.fin R3 (s3) h4⟩
            rw [← a2 z]
            rw [show g1.θ l = g3.θ l' from by injection hv]
            exact DGet.k h5
        · exact h4.elim
    · exact h1.elim⟩
def getE1 (fo fa : DE0) : DE0 := fun r O => (fo r O).bind fun d O1 => if tyDic d O1 then (fa r O1).bind fun k O2 => get2D d k .non O2 else .bad
theorem e_get1 {fa : DE0} (hu : X.A.units + 1 < cLine) (ho : DE C X W o fo) (ha : DE C X W e fa) (m : M1 X o "get" apos e cpos := by exact ⟨rfl, rfl, rfl, rfl⟩) :
    DE C X W (.Call (.Attribute o "get" apos) [e] [] cpos) (getE1 fo fa) :=
  let ⟨_, po, so⟩ := ho.ex; let ⟨_, pa, sa⟩ := ha.ex
  ⟨_, pe_dget1 hu po pa m, fun g σ H r O R S Q h => so.seq R S h fun d O1 v g1 H1 e1 R1 S1 s1 h1 => by
    split at h1
    · rename_i hy
      unfold tyDic at hy
      cases q : dicOf d O1 with
      | none => rw [q] at hy; cases hy
      | some lk =>
        obtain ⟨l, kvs⟩ := lk
        obtain ⟨rfl, _, _, ws, h2, _⟩ := dicOf_of R1 s1 q
        refine ⟨_, rfl, .inl ⟨ws, .inl h2⟩, sa.seq R1 S1 h1 fun k O2 kv g2 H2 e2 R2 S2 s2 h4 => ?_⟩
        have h4 : Post C W σ g2 H2 (get2D d k .non O2) Q := h4
        unfold get2D at h4
        split at h4
        · rename_i l' kvs' k' eq1 eq2
          have sd := s1.mono e2.le
          obtain ⟨hv, _, _, ws', h5, h6⟩ := dicOf_of R2 sd eq1
          have hkk := keyD_of s2 eq2
          subst hkk
          obtain ⟨a1, a2⟩ := shrK_get (k := k') h6
          cases z : getK kvs' k' with
          | some y =>
            obtain ⟨u, b1, b2⟩ := a1 y z
            rw [z] at h4
            refine ⟨some u, ?_, Post.fin R2 b2 h4⟩
            rw [← b1]
            rw [show g1.θ l = g2.θ l' from by injection hv]
            exact DGet.k h5
          | none =>
            rw [z] at h4
            refine ⟨none, ?_, Post.fin R2 rfl h4⟩
            rw [← a2 z]
            rw [show g1.θ l = g2.θ l' from by injection hv]
            exact DGet.k h5
        · exact h4.elim
    · exact h1.elim⟩
/-- does a clause name an error's class -/
theorem exm_mk {K : PySem.W.Frag} {E S : Addr} {b : Bool} (hS : PySem.W.subIn K (.ref S) (.type "BaseException") = some true) (hc : PySem.W.isClsIn K S = true) (ht : PySem.W.typeIn K (.ref S) = some (.type "type")) (hb : PySem.W.subIn K (.ref E) (.ref S) = some b) :
    PySem.W.exmOne K (.ref E) (.ref S) = some b := by
  have hc' : (PySem.W.clsIn K S).isSome = true := hc
  have a : (PySem.W.subIn K (.ref S) (.type "BaseException") == some true) = true := by rw [hS]; rfl
  have c : ((PySem.W.clsIn K S).isSome && PySem.W.typeIn K (.ref S) == some (.type "type")) = true := by rw [hc', ht]; rfl
  unfold PySem.W.exmOne
  rw [if_pos a]
  exact (if_pos c).trans hb
end
end Dn
set_option Elab.async false
set_option linter.all false
set_option maxRecDepth 100000
set_option maxHeartbeats 2000000
namespace Dn
open PySem PySem.Spec PyProof.Rows L2
section
variable {C : Ctx} {X : Cx} {W : WX} {e : Expr} {es : List Expr} {fas : Rho → Sto → Res (List D)} {p pos : Pos}
/-! ### max, min of two whole numbers; str of one -/
def max2F : List D → Sto → ER := fun ds O => match ds with | [.int i, .int j] => .ok (.int (if j > i then j else i)) O | _ => .bad
def min2F : List D → Sto → ER := fun ds O => match ds with | [.int i, .int j] => .ok (.int (if j < i then j else i)) O | _ => .bad
theorem shrL_ints2 {g : G} {i j : Int} {vs : List V} (s : ShrL C.K g [.int i, .int j] vs) : vs = [.int i, .int j] := by
  simp only [ShrL] at s
  obtain ⟨v, q, rfl, h1, w, q2, rfl, h2, rfl⟩ := s
  cases h1; cases h2; rfl
theorem s_max2 : SatC C W (fun xs H Q => ∃ i j, xs = [.int i, .int j] ∧ Q (.int (if j > i then j else i)) H) max2F := by
  intro g H O R ds vs s σ Q h
  unfold max2F at h
  split at h
  · have := shrL_ints2 s
    subst this
    exact ⟨_, _, rfl, Post.fin R rfl h⟩
  · exact h.elim
theorem s_min2 : SatC C W (fun xs H Q => ∃ i j, xs = [.int i, .int j] ∧ Q (.int (if j < i then j else i)) H) min2F := by
  intro g H O R ds vs s σ Q h
  unfold min2F at h
  split at h
  · have := shrL_ints2 s
    subst this
    exact ⟨_, _, rfl, Post.fin R rfl h⟩
  · exact h.elim
theorem e_max2 (hK : X.K = C.K) (hc : X.calm = true) (hm : X.mg "max" = none) (hg : Gl X "max") (ha : DA C X W (e :: es) fas)
    (he : starEach (e :: es) X.env = (false, eval e X.env) :: starEach es X.env := by rfl) (hpl : (backTo pos (starEach es X.env)).any (·.1) = false := by rfl) : DE C X W (.Call (.Name "max" p) (e :: es) [] pos) (callE max2F fas) :=
  d_callB (call_max2 hc) s_max2 hg hm (by decide +kernel) ha (by decide) (by decide) he hpl
theorem e_min2 (hK : X.K = C.K) (hc : X.calm = true) (hm : X.mg "min" = none) (hg : Gl X "min") (ha : DA C X W (e :: es) fas)
    (he : starEach (e :: es) X.env = (false, eval e X.env) :: starEach es X.env := by rfl) (hpl : (backTo pos (starEach es X.env)).any (·.1) = false := by rfl) : DE C X W (.Call (.Name "min" p) (e :: es) [] pos) (callE min2F fas) :=
  d_callB (call_min2 hc) s_min2 hg hm (by decide +kernel) ha (by decide) (by decide) he hpl
/-- the text of a whole number -/
def numT (i : Int) : List Nat := (toString i).toList.map Char.toNat
theorem mkS_num (i : Int) : Str.ofString (toString i) = mkS (numT i) := TL.ext_tl (TL.tl_ofString _)
def strF : List D → Sto → ER := fun ds O => match ds with | [.int i] => if i.natAbs.log2 < 1920 then .ok (.str (numT i)) O else .bad | _ => .bad
theorem s_str : SatC C W (fun xs H Q => ∃ i : Int, xs = [.int i] ∧ i.natAbs.log2 < 1920 ∧ Q (.str (toString i)) H) strF := by
  intro g H O R ds vs s σ Q h
  unfold strF at h
  split at h
  · rename_i i
    obtain ⟨v, rfl, sv⟩ := shrL_one s
    cases sv
    split at h
    · rename_i hz
      refine ⟨i, rfl, hz, Post.fin R ?_ h⟩
      show V.str (Str.ofString (toString i)) = .str (mkS (numT i))
      rw [mkS_num]
    · exact h.elim
  · exact h.elim
theorem e_str (hm : X.mg "str" = none) (hg : Gl X "str") (ha : DA C X W (e :: es) fas)
    (he : starEach (e :: es) X.env = (false, eval e X.env) :: starEach es X.env := by rfl) (hpl : (backTo pos (starEach es X.env)).any (·.1) = false := by rfl) : DE C X W (.Call (.Name "str" p) (e :: es) [] pos) (callE strF fas) :=
  d_callTy (call_str_int (X := X)) s_str hg hm (by decide +kernel) ha (by decide) (by decide) he hpl
end
end Dn
set_option Elab.async false
set_option linter.all false
set_option maxRecDepth 100000
set_option maxHeartbeats 2000000
namespace Dn
open PySem PySem.Spec PyProof.Rows L2
section
variable {C : Ctx} {X : Cx} {W : WX} {e v1 v2 : Expr} {es rest : List Expr} {f : DE0} {pos : Pos}
/-! ### f-strings of texts and whole numbers -/
def fmtD (d : D) (O : Sto) : ER := match d with
  | .str x => if x.length ≤ sizeLine then .ok (.str x) O else .bad
  | .int i => if i.natAbs.log2 < 1920 then .ok (.str (numT i)) O else .bad
  | _ => .bad
def fmtE (f : DE0) : DE0 := fun r O => (f r O).bind fun d O1 => fmtD d O1
theorem j_val (h : DE C X W e f) : DE C X W (.FormattedValue e (-1) none pos) (fmtE f) :=
  let ⟨_, p, s⟩ := h.ex
  ⟨_, pe_fmt p, fun g σ H r O R S Q q => s.seq R S q fun d O1 v g1 H1 e1 R1 S1 s1 h1 => by
    have h1 : Post C W σ g1 H1 (fmtD d O1) Q := h1
    unfold fmtD at h1
    split at h1
    · rename_i x
      cases s1
      split at h1
      · rename_i hz
        exact .inl ⟨_, rfl, by simpa [Str.length] using hz, Post.fin R1 rfl h1⟩
      · exact h1.elim
    · cases s1
      split at h1
      · rename_i hz
        refine .inr ⟨_, rfl, hz, Post.fin R1 ?_ h1⟩
        exact congrArg V.str (mkS_num _)
      · exact h1.elim
    · exact h1.elim⟩
abbrev DJ0 := List Nat → Rho → Sto → ER
def nilJ : DJ0 := fun acc _ O => .ok (.str acc) O
def consJ (f : DE0) (j : DJ0) : DJ0 := fun acc r O => (f r O).bind fun d O1 => match d with
  | .str y => if acc.length + y.length ≤ sizeLine then j (acc ++ y) r O1 else .bad
  | _ => .bad
def joinE (j : DJ0) : DE0 := fun r O => j [] r O
structure DJ (C : Ctx) (X : Cx) (W : WX) (es : List Expr) (j : DJ0) : Prop where
  ex : ∃ ts, PJ X es ts ∧ ∀ acc g σ H r O, RepO C g H O → RepS C g σ r → ∀ Q : VK, Post C W σ g H (j acc r O) Q → tJs ts (mkS acc) σ H fun out H1 => Q (.str out) H1
theorem j_nil : DJ C X W [] nilJ := ⟨[], .nil, fun acc g σ H r O R S Q h => h _ g H (Ext.refl R) R rfl⟩
theorem mkS_app (x y : List Nat) : mkS x ++ mkS y = mkS (x ++ y) := TL.ext_tl (by rw [TL.tl_append])
theorem j_cons {j : DJ0} (h : DE C X W e f) (hr : DJ C X W es j) : DJ C X W (e :: es) (consJ f j) :=
  let ⟨_, p, s⟩ := h.ex; let ⟨_, q, u⟩ := hr.ex
  ⟨_, .cons p q, fun acc g σ H r O R S Q h => s.seq R S h fun d O1 v g1 H1 e1 R1 S1 s1 h1 => by
    split at h1
    · rename_i y
      cases s1
      split at h1
      · rename_i hz
        refine ⟨mkS y, rfl, ?_, ?_⟩
        · rw [mkS_app]
          simpa [mkS, Str.length] using hz
        · rw [mkS_app]
          exact u (acc ++ y) g1 σ H1 r O1 R1 S1 Q h1
      · exact h1.elim
    · exact h1.elim⟩
theorem d_join {j : DJ0} (h : DJ C X W (v1 :: v2 :: rest) j) : DE C X W (.JoinedStr (v1 :: v2 :: rest) pos) (joinE j) :=
  let ⟨_, p, s⟩ := h.ex
  ⟨_, pe_joined p, fun g σ H r O R S Q h => s [] g σ H r O R S Q h⟩
theorem d_join1 (h : DE C X W e f) : DE C X W (.JoinedStr [e] pos) f :=
  let ⟨_, p, s⟩ := h.ex
  ⟨_, pe_joined1 p, s⟩
end
end Dn
set_option Elab.async false
set_option linter.all false
set_option maxRecDepth 100000
set_option maxHeartbeats 2000000
namespace Dn
open PySem PySem.Spec PyProof.Rows L2
section
variable {C : Ctx} {X : Cx} {W : WX} {o e f : Expr} {es : List Expr} {fo : DE0} {fas : Rho → Sto → Res (List D)} {apos cpos p pos : Pos}
theorem len_mkS (z : List Nat) : (mkS z).length = z.length := by simp [mkS, Str.length]
/-! ### places of a text in another -/
def findL (x y : List Nat) : Option Nat := (List.range (x.length + 1)).find? fun i => decide (i + y.length ≤ x.length) && ((x.drop i).take y.length == y)
def asI (k : Option Nat) : Int := match k with | some k => (k : Int) | none => -1
theorem at_L (a b : List Nat) (i : Nat) : StrLaws.At (mkS a) (mkS b) (mkS a).length i ↔ (decide (i + b.length ≤ a.length) && ((a.drop i).take b.length == b)) = true := by
  unfold StrLaws.At
  rw [StrLaws.subAt_eq, len_mkS, len_mkS, Bool.and_eq_true, decide_eq_true_eq]
theorem find_L (a b : List Nat) : Txt.find (mkS a) (mkS b) = asI (findL a b) := by
  unfold Txt.find
  rcases StrLaws.occ_head (mkS a) (mkS b) 1 (Nat.le_refl 1) with ⟨e, hn⟩ | ⟨i, r, e, hi, hn⟩
  · rw [e]
    have : findL a b = none := by
      unfold findL
      rw [List.find?_eq_none]
      intro i _ h
      exact hn i ((at_L a b i).mpr h)
    rw [this]; rfl
  · rw [e]
    have : findL a b = some i := by
      unfold findL
      rw [List.find?_range_eq_some]
      refine ⟨(at_L a b i).mp hi, ?_, fun j hj => ?_⟩
      · have h1 := hi.1
        rw [len_mkS, len_mkS] at h1
        exact List.mem_range.mpr (by omega)
      · rw [Bool.not_eq_true', ← Bool.not_eq_true]
        exact fun z => hn j hj ((at_L a b j).mpr z)
    rw [this]; rfl
def find1F : D → List D → Sto → ER := fun d ds O => match d, ds with
  | .str a, [.str b] => .ok (.int (asI (findL a b))) O
  | _, _ => .bad
theorem s_find1 : SatM C W (fun x xs H Q => ∃ a b, x = .str a ∧ xs = [.str b] ∧ Q (.int (Txt.find a b)) H) find1F := by
  intro g H O R d ds v vs s sl σ Q h
  unfold find1F at h
  split at h
  · rename_i a b
    cases s
    obtain ⟨w, rfl, sy⟩ := shrL_one sl
    cases sy
    refine ⟨mkS a, mkS b, rfl, rfl, ?_⟩
    rw [find_L]
    exact Post.fin R rfl h
  · exact h.elim
/-- .find(c, i), of one sign -/
def fromL (n : Nat) (i : Int) : Nat := (max 0 (if i < 0 then i + n else i)).toNat
def find2L (x : List Nat) (c : Nat) (i : Int) : Option Nat := (List.range x.length).find? fun k => decide (fromL x.length i ≤ k) && (x.getD k 0 == c)
theorem find2_L (x : List Nat) (c : Nat) (i : Int) : Txt.find3 (mkS x) ⟨#[c]⟩ i = asI (find2L x c i) := by
  have hg : ∀ k, (mkS x).cps.getD k 0 = x.getD k 0 := fun k => by
    simp [mkS, Array.getD_eq_getD_getElem?, List.getD_eq_getElem?_getD]
  rcases StrLaws.find3_spec (mkS x) c i with ⟨e, hn⟩ | ⟨k, e, h1, h2, h3, h4⟩
  · rw [e]
    have : find2L x c i = none := by
      unfold find2L
      rw [List.find?_eq_none]
      intro k hk h
      rw [Bool.and_eq_true, decide_eq_true_eq, beq_iff_eq] at h
      refine hn k ?_ ?_ ?_
      · rw [len_mkS]; exact h.1
      · rw [len_mkS]; exact List.mem_range.mp hk
      · rw [hg]; exact h.2
    rw [this]; rfl
  · rw [e]
    rw [len_mkS] at h1 h2
    have : find2L x c i = some k := by
      unfold find2L
      rw [List.find?_range_eq_some]
      refine ⟨?_, List.mem_range.mpr h2, fun j hj => ?_⟩
      · rw [Bool.and_eq_true, decide_eq_true_eq, beq_iff_eq]
        exact ⟨h1, by rw [← hg]; exact h3⟩
      · rw [Bool.not_eq_true', ← Bool.not_eq_true, Bool.and_eq_true, decide_eq_true_eq, beq_iff_eq]
        rintro ⟨z1, z2⟩
        exact h4 j (by rw [len_mkS]; exact z1) hj (by rw [hg]; exact z2)
    rw [this]; rfl
def find2F : D → List D → Sto → ER := fun d ds O => match d, ds with
  | .str a, [.str [c], .int i] => .ok (.int (asI (find2L a c i))) O
  | _, _ => .bad
theorem s_find2 : SatM C W (fun x xs H Q => ∃ (a b : Str) (i : Int), x = .str a ∧ xs = [.str b, .int i] ∧ Q (.int (Txt.find3 a b i)) H) find2F := by
  intro g H O R d ds v vs s sl σ Q h
  unfold find2F at h
  split at h
  · rename_i a c i
    cases s
    obtain ⟨v, w, rfl, sy, sz⟩ := shrL_two sl
    cases sy; cases sz
    refine ⟨mkS a, ⟨#[c]⟩, i, rfl, rfl, ?_⟩
    rw [find2_L]
    exact Post.fin R rfl h
  · exact h.elim
def endswithF : D → List D → Sto → ER := fun d ds O => match d, ds with
  | .str a, [.str b] => .ok (.bl (decide (b.length ≤ a.length) && ((a.drop (a.length - b.length)).take b.length == b))) O
  | _, _ => .bad
theorem s_endswith : SatM C W (fun x xs H Q => ∃ a b, x = .str a ∧ xs = [.str b] ∧ Q (.bl (Txt.endswith a b)) H) endswithF := by
  intro g H O R d ds v vs s sl σ Q h
  unfold endswithF at h
  split at h
  · rename_i a b
    cases s
    obtain ⟨w, rfl, sy⟩ := shrL_one sl
    cases sy
    refine ⟨mkS a, mkS b, rfl, rfl, ?_⟩
    have e : Txt.endswith (mkS a) (mkS b) = (decide (b.length ≤ a.length) && ((a.drop (a.length - b.length)).take b.length == b)) := by
      unfold Txt.endswith
      rw [StrLaws.subAt_eq, len_mkS, len_mkS, Nat.zero_add]
    rw [e]
    exact Post.fin R rfl h
  · exact h.elim
/-- s.partition(t) -/
def parD (a b : List Nat) : List D := match TL.par b [] a with | some (p, q) => [.str p, .str b, .str q] | none => [.str a, .str [], .str []]
def partition1F : D → List D → Sto → ER := fun d ds O => match d, ds with
  | .str a, [.str b] => if decide (b ≠ []) && decide (a.length ≤ sizeLine) then .ok (.tup (parD a b)) O else .bad
  | _, _ => .bad
theorem s_partition1 : SatM C W (fun x xs H Q => ∃ a b, x = .str a ∧ xs = [.str b] ∧ (b.length == 0) = false ∧ a.length ≤ sizeLine ∧ ∀ p, H p = none → Q (.ref p) (upd H p (.tup [.str (Txt.partition a b).1, .str (Txt.partition a b).2.1, .str (Txt.partition a b).2.2]))) partition1F := by
  intro g H O R d ds v vs s sl σ Q h
  unfold partition1F at h
  split at h
  · rename_i a b
    cases s
    obtain ⟨w, rfl, sy⟩ := shrL_one sl
    cases sy
    split at h
    · rename_i hc
      simp only [Bool.and_eq_true, decide_eq_true_eq] at hc
      refine ⟨mkS a, mkS b, rfl, rfl, ?_, by rw [len_mkS]; exact hc.2, fun p hp => new_tup R ?_ h hp⟩
      · rw [len_mkS]
        cases b with
        | nil => exact absurd rfl hc.1
        | cons => rfl
      · rw [TL.partition_par (mkS a) (mkS b) hc.1]
        have e1 : TL.tl (mkS a) = a := rfl
        have e2 : TL.tl (mkS b) = b := rfl
        rw [e1, e2]
        unfold parD
        cases TL.par b [] a with
        | none => exact strs_shrL [a, [], []]
        | some pq => exact strs_shrL [pq.1, b, pq.2]
    · exact h.elim
  · exact h.elim
/-- .ljust, .rjust -/
theorem tl_padded (x : Str) (m n c : Nat) : TL.tl (Builtin.Str.padded x m n c) = List.replicate m c ++ TL.tl x ++ List.replicate n c := by
  unfold Builtin.Str.padded TL.tl
  simp
def ljust1F : D → List D → Sto → ER := fun d ds O => match d, ds with
  | .str a, [.int i] => if PadOk i then .ok (.str (a ++ List.replicate (i.toNat - a.length) 32)) O else .bad
  | _, _ => .bad
def rjust1F : D → List D → Sto → ER := fun d ds O => match d, ds with
  | .str a, [.int i] => if PadOk i then .ok (.str (List.replicate (i.toNat - a.length) 32 ++ a)) O else .bad
  | _, _ => .bad
theorem ljust_L (a : List Nat) (i : Int) : Txt.ljust (mkS a) i = mkS (a ++ List.replicate (i.toNat - a.length) 32) := by
  unfold Txt.ljust
  rw [len_mkS]
  split
  · have : i.toNat - a.length = 0 := by omega
    rw [this]; simp
  · refine TL.ext_tl ?_
    rw [tl_padded]; simp [TL.tl_mk, tl_mkS]
theorem rjust_L (a : List Nat) (i : Int) : Txt.rjust (mkS a) i = mkS (List.replicate (i.toNat - a.length) 32 ++ a) := by
  unfold Txt.rjust
  rw [len_mkS]
  split
  · have : i.toNat - a.length = 0 := by omega
    rw [this]; simp
  · refine TL.ext_tl ?_
    rw [tl_padded]; simp [TL.tl_mk, tl_mkS]
theorem s_ljust1 : SatM C W (fun x xs H Q => ∃ (a : Str) (i : Int), x = .str a ∧ xs = [.int i] ∧ PadOk i = true ∧ Q (.str (Txt.ljust a i)) H) ljust1F := by
  intro g H O R d ds v vs s sl σ Q h
  unfold ljust1F at h
  split at h
  · rename_i a i
    cases s
    obtain ⟨w, rfl, sy⟩ := shrL_one sl
    cases sy
    split at h
    · rename_i hc
      refine ⟨mkS a, i, rfl, rfl, hc, ?_⟩
      rw [ljust_L]
      exact Post.fin R rfl h
    · exact h.elim
  · exact h.elim
theorem s_rjust1 : SatM C W (fun x xs H Q => ∃ (a : Str) (i : Int), x = .str a ∧ xs = [.int i] ∧ PadOk i = true ∧ Q (.str (Txt.rjust a i)) H) rjust1F := by
  intro g H O R d ds v vs s sl σ Q h
  unfold rjust1F at h
  split at h
  · rename_i a i
    cases s
    obtain ⟨w, rfl, sy⟩ := shrL_one sl
    cases sy
    split at h
    · rename_i hc
      refine ⟨mkS a, i, rfl, rfl, hc, ?_⟩
      rw [rjust_L]
      exact Post.fin R rfl h
    · exact h.elim
  · exact h.elim
/-- int(s) -/
def intF : List D → Sto → ER := fun ds O => match ds with
  | [.str a] => if a.length ≤ 640 then (match PySem.intText? (mkS a) with | some n => .ok (.int n) O | none => .bad) else .bad
  | _ => .bad
theorem s_int : SatC C W (fun xs H Q => ∃ a n, xs = [.str a] ∧ PySem.intText? a = some n ∧ a.length ≤ 640 ∧ Q (.int n) H) intF := by
  intro g H O R ds vs s σ Q h
  unfold intF at h
  split at h
  · rename_i a
    obtain ⟨v, rfl, sv⟩ := shrL_one s
    cases sv
    split at h
    · rename_i hl
      split at h
      · rename_i n en
        exact ⟨mkS a, n, rfl, en, by rw [len_mkS]; exact hl, Post.fin R rfl h⟩
      · exact h.elim
    · exact h.elim
  · exact h.elim
theorem e_int (hm : X.mg "int" = none) (hg : Gl X "int") (ha : DA C X W (e :: es) fas)
    (he : starEach (e :: es) X.env = (false, eval e X.env) :: starEach es X.env := by rfl) (hpl : (backTo pos (starEach es X.env)).any (·.1) = false := by rfl) : DE C X W (.Call (.Name "int" p) (e :: es) [] pos) (callE intF fas) :=
  d_callTy (call_int_str (X := X)) s_int hg hm (by decide +kernel) ha (by decide) (by decide) he hpl
section
variable {fo : DE0}
theorem e_find1 (hK : X.K = C.K) (ho : DE C X W o fo) (ha : DA C X W [e] fas)
    (hbase : attributeBase o "find" X.env (eval o X.env) = eval o X.env := by rfl)
    (hfew : ((backTo cpos (starEach [e] X.env)).all (fun x => !x.1) && (backToKw cpos (keywordEach [] X.env)).all (fun x => x.1.isSome)
      && decide ([e].length + ([] : List Keyword).length + (if ([] : List Keyword).isEmpty then 0 else 1) < 30)) = true := by rfl)
    (hline : (apos.endLine == cpos.line) = true := by rfl) (hs : starEach [e] X.env = (false, eval e X.env) :: starEach [] X.env := by rfl) (hplain : (backTo cpos (starEach [] X.env)).any (·.1) = false := by rfl) :
    DE C X W (.Call (.Attribute o "find" apos) [e] [] cpos) (bmE tyStr find1F fo fas) :=
  d_bm hK PySem.F.plainAttrs_str PySem.F.slot_str_find PySem.F.type_str_find mt_find s_find1 ty_str ho ha hbase hfew hline hs hplain
theorem e_find2 (hK : X.K = C.K) (ho : DE C X W o fo) (ha : DA C X W [e, f] fas)
    (hbase : attributeBase o "find" X.env (eval o X.env) = eval o X.env := by rfl)
    (hfew : ((backTo cpos (starEach [e, f] X.env)).all (fun x => !x.1) && (backToKw cpos (keywordEach [] X.env)).all (fun x => x.1.isSome)
      && decide ([e, f].length + ([] : List Keyword).length + (if ([] : List Keyword).isEmpty then 0 else 1) < 30)) = true := by rfl)
    (hline : (apos.endLine == cpos.line) = true := by rfl) (hs : starEach [e, f] X.env = (false, eval e X.env) :: starEach [f] X.env := by rfl) (hplain : (backTo cpos (starEach [f] X.env)).any (·.1) = false := by rfl) :
    DE C X W (.Call (.Attribute o "find" apos) [e, f] [] cpos) (bmE tyStr find2F fo fas) :=
  d_bm hK PySem.F.plainAttrs_str PySem.F.slot_str_find PySem.F.type_str_find mt_find3 s_find2 ty_str ho ha hbase hfew hline hs hplain
theorem e_endswith (hK : X.K = C.K) (ho : DE C X W o fo) (ha : DA C X W [e] fas)
    (hbase : attributeBase o "endswith" X.env (eval o X.env) = eval o X.env := by rfl)
    (hfew : ((backTo cpos (starEach [e] X.env)).all (fun x => !x.1) && (backToKw cpos (keywordEach [] X.env)).all (fun x => x.1.isSome)
      && decide ([e].length + ([] : List Keyword).length + (if ([] : List Keyword).isEmpty then 0 else 1) < 30)) = true := by rfl)
    (hline : (apos.endLine == cpos.line) = true := by rfl) (hs : starEach [e] X.env = (false, eval e X.env) :: starEach [] X.env := by rfl) (hplain : (backTo cpos (starEach [] X.env)).any (·.1) = false := by rfl) :
    DE C X W (.Call (.Attribute o "endswith" apos) [e] [] cpos) (bmE tyStr endswithF fo fas) :=
  d_bm hK PySem.F.plainAttrs_str PySem.F.slot_str_endswith PySem.F.type_str_endswith mt_endswith s_endswith ty_str ho ha hbase hfew hline hs hplain
theorem e_partition1 (hK : X.K = C.K) (ho : DE C X W o fo) (ha : DA C X W [e] fas)
    (hbase : attributeBase o "partition" X.env (eval o X.env) = eval o X.env := by rfl)
    (hfew : ((backTo cpos (starEach [e] X.env)).all (fun x => !x.1) && (backToKw cpos (keywordEach [] X.env)).all (fun x => x.1.isSome)
      && decide ([e].length + ([] : List Keyword).length + (if ([] : List Keyword).isEmpty then 0 else 1) < 30)) = true := by rfl)
    (hline : (apos.endLine == cpos.line) = true := by rfl) (hs : starEach [e] X.env = (false, eval e X.env) :: starEach [] X.env := by rfl) (hplain : (backTo cpos (starEach [] X.env)).any (·.1) = false := by rfl) :
    DE C X W (.Call (.Attribute o "partition" apos) [e] [] cpos) (bmE tyStr partition1F fo fas) :=
  d_bm hK PySem.F.plainAttrs_str PySem.F.slot_str_partition PySem.F.type_str_partition mt_partition s_partition1 ty_str ho ha hbase hfew hline hs hplain
theorem e_ljust1 (hK : X.K = C.K) (ho : DE C X W o fo) (ha : DA C X W [e] fas)
    (hbase : attributeBase o "ljust" X.env (eval o X.env) = eval o X.env := by rfl)
    (hfew : ((backTo cpos (starEach [e] X.env)).all (fun x => !x.1) && (backToKw cpos (keywordEach [] X.env)).all (fun x => x.1.isSome)
      && decide ([e].length + ([] : List Keyword).length + (if ([] : List Keyword).isEmpty then 0 else 1) < 30)) = true := by rfl)
    (hline : (apos.endLine == cpos.line) = true := by rfl) (hs : starEach [e] X.env = (false, eval e X.env) :: starEach [] X.env := by rfl) (hplain : (backTo cpos (starEach [] X.env)).any (·.1) = false := by rfl) :
    DE C X W (.Call (.Attribute o "ljust" apos) [e] [] cpos) (bmE tyStr ljust1F fo fas) :=
  d_bm hK PySem.F.plainAttrs_str PySem.F.slot_str_ljust PySem.F.type_str_ljust mt_ljust s_ljust1 ty_str ho ha hbase hfew hline hs hplain
theorem e_rjust1 (hK : X.K = C.K) (ho : DE C X W o fo) (ha : DA C X W [e] fas)
    (hbase : attributeBase o "rjust" X.env (eval o X.env) = eval o X.env := by rfl)
    (hfew : ((backTo cpos (starEach [e] X.env)).all (fun x => !x.1) && (backToKw cpos (keywordEach [] X.env)).all (fun x => x.1.isSome)
      && decide ([e].length + ([] : List Keyword).length + (if ([] : List Keyword).isEmpty then 0 else 1) < 30)) = true := by rfl)
    (hline : (apos.endLine == cpos.line) = true := by rfl) (hs : starEach [e] X.env = (false, eval e X.env) :: starEach [] X.env := by rfl) (hplain : (backTo cpos (starEach [] X.env)).any (·.1) = false := by rfl) :
    DE C X W (.Call (.Attribute o "rjust" apos) [e] [] cpos) (bmE tyStr rjust1F fo fas) :=
  d_bm hK PySem.F.plainAttrs_str PySem.F.slot_str_rjust PySem.F.type_str_rjust mt_rjust s_rjust1 ty_str ho ha hbase hfew hline hs hplain
end
end
end Dn
set_option Elab.async false
set_option linter.all false
set_option maxRecDepth 100000
set_option maxHeartbeats 2000000
namespace Dn
open PySem PySem.Spec PyProof.Rows L2
section
variable {C : Ctx} {X : Cx} {W : WX} {o e f a b : Expr} {es : List Expr} {fo fa fb : DE0} {fas : Rho → Sto → Res (List D)} {apos cpos p pos : Pos}
/-! ### xs.pop(), xs.pop(0), xs.clear() -/
def pop0F : D → List D → Sto → ER := fun d ds O => match d, ds with
  | .ob l, [] => (match O[l]? with | some (.lst xs) => (match xs[xs.length - 1]? with | some y => .ok y (O.set l (.lst xs.dropLast)) | none => .bad) | _ => .bad)
  | _, _ => .bad
theorem shrL_dropLast {K : PySem.W.Frag} {g : G} {ds : List D} {vs : List V} (h : ShrL K g ds vs) : ShrL K g ds.dropLast vs.dropLast := by
  rw [List.dropLast_eq_take, List.dropLast_eq_take, shrL_len h]
  exact shrL_take _ h
theorem s_pop0 : SatM C W rPop pop0F := by
  intro g H O R d ds v vs s sl σ Q h
  unfold pop0F at h
  split at h
  · rename_i l
    simp only [Shr] at s
    obtain ⟨rfl, hl⟩ := s
    simp only [ShrL] at sl
    subst sl
    split at h
    · rename_i xs e
      split at h
      · rename_i y ey
        obtain ⟨ws, h1, h2⟩ := R.cell l _ e
        obtain ⟨w, hw, sw⟩ := shrL_get h2 ey
        refine ⟨_, ws, w, rfl, rfl, h1, by rw [shrL_len h2]; exact hw, ?_⟩
        exact h w g _ (Ext.set R hl) (R.set hl ⟨_, upd_same, shrL_dropLast h2⟩) sw
      · exact h.elim
    · exact h.elim
  · exact h.elim
def popAt0F : D → List D → Sto → ER := fun d ds O => match d, ds with
  | .ob l, [.int i] => if i = 0 then (match O[l]? with | some (.lst (y :: ys)) => .ok y (O.set l (.lst ys)) | _ => .bad) else .bad
  | _, _ => .bad
theorem s_popAt0 : SatM C W rPopAt popAt0F := by
  intro g H O R d ds v vs s sl σ Q h
  unfold popAt0F at h
  split at h
  · rename_i l i
    simp only [Shr] at s
    obtain ⟨rfl, hl⟩ := s
    obtain ⟨w, rfl, sy⟩ := shrL_one sl
    cases sy
    split at h
    · rename_i hi
      subst hi
      split at h
      · rename_i y ys e
        obtain ⟨ws, h1, h2⟩ := R.cell l _ e
        simp only [ShrL] at h2
        obtain ⟨w, r, rfl, sw, sr⟩ := h2
        refine ⟨_, w :: r, 0, 0, w, rfl, rfl, h1, by decide, by decide, ?_, rfl, ?_⟩
        · unfold seqIndex?; simp
        · exact h w g _ (Ext.set R hl) (R.set hl ⟨r, upd_same, sr⟩) sw
      · exact h.elim
    · exact h.elim
  · exact h.elim
def clearF : D → List D → Sto → ER := fun d ds O => match d, ds with
  | .ob l, [] => (match O[l]? with | some (.lst xs) => .ok .non (O.set l (.lst [])) | _ => .bad)
  | _, _ => .bad
theorem s_clear : SatM C W rClear clearF := by
  intro g H O R d ds v vs s sl σ Q h
  unfold clearF at h
  split at h
  · rename_i l
    simp only [Shr] at s
    obtain ⟨rfl, hl⟩ := s
    simp only [ShrL] at sl
    subst sl
    split at h
    · rename_i xs e
      obtain ⟨ws, h1, h2⟩ := R.cell l _ e
      exact ⟨_, ws, rfl, rfl, h1, h .non g _ (Ext.set R hl) (R.set hl ⟨[], upd_same, by simp [ShrL]⟩) rfl⟩
    · exact h.elim
  · exact h.elim
theorem e_pop0 (hK : X.K = C.K) (ho : DE C X W o fo)
    (hbase : attributeBase o "pop" X.env (eval o X.env) = eval o X.env := by rfl) (hline : (apos.endLine == cpos.line) = true := by rfl) :
    DE C X W (.Call (.Attribute o "pop" apos) [] [] cpos) (bmE tyLst pop0F fo nilA) :=
  d_bm0 hK PySem.F.plainAttrs_list PySem.F.slot_list_pop PySem.F.type_list_pop mt_pop s_pop0 ty_lst ho hbase hline
theorem e_clear (hK : X.K = C.K) (ho : DE C X W o fo)
    (hbase : attributeBase o "clear" X.env (eval o X.env) = eval o X.env := by rfl) (hline : (apos.endLine == cpos.line) = true := by rfl) :
    DE C X W (.Call (.Attribute o "clear" apos) [] [] cpos) (bmE tyLst clearF fo nilA) :=
  d_bm0 hK PySem.F.plainAttrs_list PySem.F.slot_list_clear PySem.F.type_list_clear mt_clear s_clear ty_lst ho hbase hline
theorem e_popAt0 (hK : X.K = C.K) (ho : DE C X W o fo) (ha : DA C X W [e] fas)
    (hbase : attributeBase o "pop" X.env (eval o X.env) = eval o X.env := by rfl)
    (hfew : ((backTo cpos (starEach [e] X.env)).all (fun x => !x.1) && (backToKw cpos (keywordEach [] X.env)).all (fun x => x.1.isSome)
      && decide ([e].length + ([] : List Keyword).length + (if ([] : List Keyword).isEmpty then 0 else 1) < 30)) = true := by rfl)
    (hline : (apos.endLine == cpos.line) = true := by rfl) (hs : starEach [e] X.env = (false, eval e X.env) :: starEach [] X.env := by rfl) (hplain : (backTo cpos (starEach [] X.env)).any (·.1) = false := by rfl) :
    DE C X W (.Call (.Attribute o "pop" apos) [e] [] cpos) (bmE tyLst popAt0F fo fas) :=
  d_bm hK PySem.F.plainAttrs_list PySem.F.slot_list_pop PySem.F.type_list_pop mt_popAt s_popAt0 ty_lst ho ha hbase hfew hline hs hplain
/-! ### d.pop(k) -/
def popD (d k : D) (O : Sto) : ER := match dicOf d O, keyD k with
  | some (l, kvs), some k => (match getK kvs k with | some v => .ok v (O.set l (.dic (delK kvs k))) | none => .bad)
  | _, _ => .bad
def popE (fo fa : DE0) : DE0 := fun r O => (fo r O).bind fun d O1 => if tyDic d O1 then (fa r O1).bind fun k O2 => popD d k O2 else .bad
theorem e_dpop (ho : DE C X W o fo) (ha : DE C X W e fa) (m : M1 X o "pop" apos e cpos := by exact ⟨rfl, rfl, rfl, rfl⟩) :
    DE C X W (.Call (.Attribute o "pop" apos) [e] [] cpos) (popE fo fa) :=
  let ⟨_, po, so⟩ := ho.ex; let ⟨_, pa, sa⟩ := ha.ex
  ⟨_, pe_dpop1 po pa m, fun g σ H r O R S Q h => so.seq R S h fun d O1 v g1 H1 e1 R1 S1 s1 h1 => by
    split at h1
    · rename_i hy
      unfold tyDic at hy
      cases q : dicOf d O1 with
      | none => rw [q] at hy; cases hy
      | some lk =>
        obtain ⟨l, kvs⟩ := lk
        obtain ⟨rfl, _, _, ws, h2, _⟩ := dicOf_of R1 s1 q
        refine ⟨_, rfl, .inl ⟨ws, .inl h2⟩, sa.seq R1 S1 h1 fun k O2 kv g2 H2 e2 R2 S2 s2 h4 => ?_⟩
        have h4 : Post C W σ g2 H2 (popD d k O2) Q := h4
        unfold popD at h4
        split at h4
        · rename_i l' kvs' k' eq1 eq2
          have sd := s1.mono e2.le
          obtain ⟨hv, hl', _, ws', h5, h6⟩ := dicOf_of R2 sd eq1
          have hkk := keyD_of s2 eq2
          subst hkk
          obtain ⟨a1, a2⟩ := shrK_get (k := k') h6
          split at h4
          · rename_i y z
            obtain ⟨u, b1, b2⟩ := a1 y z
            have ha : g1.θ l = g2.θ l' := by injection hv
            refine ⟨ws', kD k', u, by rw [ha]; exact h5, rfl, b1, ?_⟩
            rw [ha]
            exact h4 u g2 _ (Ext.set R2 hl') (R2.set hl' ⟨_, upd_same, shrK_del h6⟩) b2
          · exact h4.elim
        · exact h4.elim
    · exact h1.elim⟩
def popD2 (d k x : D) (O : Sto) : ER := match dicOf d O, keyD k with
  | some (l, kvs), some k => (match getK kvs k with | some v => .ok v (O.set l (.dic (delK kvs k))) | none => .ok x O)
  | _, _ => .bad
def popE2 (fo fa fb : DE0) : DE0 := fun r O => (fo r O).bind fun d O1 => if tyDic d O1 then (fa r O1).bind fun k O2 => (fb r O2).bind fun x O3 => popD2 d k x O3 else .bad
theorem e_dpop2 (ho : DE C X W o fo) (ha : DE C X W e fa) (hb : DE C X W f fb) (m : M2 X o "pop" apos e f cpos := by exact ⟨rfl, rfl, rfl, rfl⟩) :
    DE C X W (.Call (.Attribute o "pop" apos) [e, f] [] cpos) (popE2 fo fa fb) :=
  let ⟨_, po, so⟩ := ho.ex; let ⟨_, pa, sa⟩ := ha.ex; let ⟨_, pb, sb⟩ := hb.ex
  ⟨_, pe_dpop2 po pa pb m, fun g σ H r O R S Q h => so.seq R S h fun d O1 v g1 H1 e1 R1 S1 s1 h1 => by
    split at h1
    · rename_i hy
      unfold tyDic at hy
      cases q : dicOf d O1 with
      | none => rw [q] at hy; cases hy
      | some lk =>
        obtain ⟨l, kvs⟩ := lk
        obtain ⟨rfl, _, _, ws, h2, _⟩ := dicOf_of R1 s1 q
        refine ⟨_, rfl, .inl ⟨ws, .inl h2⟩, sa.seq R1 S1 h1 fun k O2 kv g2 H2 e2 R2 S2 s2 h3 => sb.seq R2 S2 h3 fun x O3 xv g3 H3 e3 R3 S3 s3 h4 => ?_⟩
        have h4 : Post C W σ g3 H3 (popD2 d k x O3) Q := h4
        unfold popD2 at h4
        split at h4
        · rename_i l' kvs' k' eq1 eq2
          have sd := (s1.mono e2.le).mono e3.le
          obtain ⟨hv, hl', _, ws', h5, h6⟩ := dicOf_of R3 sd eq1
          have hkk := keyD_of s2 eq2
          subst hkk
          obtain ⟨a1, a2⟩ := shrK_get (k := k') h6
          have ha : g1.θ l = g3.θ l' := by injection hv
          refine ⟨ws', kD k', by rw [ha]; exact h5, rfl, fun u hu => ?_, fun hn => ?_⟩
          · split at h4
            · rename_i y z
              obtain ⟨u', b1, b2⟩ := a1 y z
              rw [b1] at hu
              cases hu
              rw [ha]
              exact h4 _ g3 _ (Ext.set R3 hl') (R3.set hl' ⟨_, upd_same, shrK_del h6⟩) b2
            · rename_i z
              rw [a2 z] at hu; cases hu
          · split at h4
            · rename_i y z
              obtain ⟨u', b1, b2⟩ := a1 y z
              rw [b1] at hn; cases hn
            · exact Post.fin R3 s3 h4
        · exact h4.elim
    · exact h1.elim⟩
end
end Dn
set_option Elab.async false
set_option linter.all false
set_option maxRecDepth 100000
set_option maxHeartbeats 4000000
namespace Dn
open PySem PySem.Spec PyProof.Rows L2
section
variable {C : Ctx} {X : Cx} {W : WX}
/-! ### (x,) * n, 's' * n, of any n below 1000 -/
theorem tuple_mul1 (l : Addr) (items : Array Value) (n : Nat) (dd : Option Addr) (sl : Array (Option Value)) (u : Tok) :
    Meets (Builtin.«tuple.__mul__» ⟨[.ref l, .int 1 u], []⟩) (fun _ R s => s.heap.get? l = some { cls := .type "tuple", dict := dd, data := .seq items n, slots := sl } ∧ R (.ok (.ret (Value.ref l))) s) :=
  .of_wp fun prog w A R s h => by
    obtain ⟨hp, g, d, tk, os⟩ := s
    obtain ⟨hl, h⟩ := h
    have f1 := AutoSeq1.idx_int
    wp_walk using wpAny_loadPart' hl
    exact ⟨_, rfl, h⟩
theorem tuple_mul0 (l : Addr) (items : Array Value) (n : Nat) (dd : Option Addr) (sl : Array (Option Value)) (x : Int) (u : Tok) (c0 : (decide (x < -(2 ^ 63)) || decide (x ≥ 2 ^ 63)) = false) (c1 : (items.isEmpty || x == 1) = false)
    (c2 : (decide (x ≤ 0) || items.isEmpty) = true) :
    Meets (Builtin.«tuple.__mul__» ⟨[.ref l, .int x u], []⟩) (fun _ R s => s.heap.get? l = some { cls := .type "tuple", dict := dd, data := .seq items n, slots := sl } ∧
      R (.ok (.ret (Value.ref s.heap.objs.size))) { s with heap := s.heap.push { cls := Value.type "tuple", data := Data.seq #[] }, toks := s.toks }) :=
  .of_wp fun prog w A R s h => by
    obtain ⟨hp, g, d, tk, os⟩ := s
    obtain ⟨hl, h⟩ := h
    have f1 := AutoSeq1.idx_int
    wp_walk using wpAny_loadPart' hl
    repeat (first
      | (refine wpAny_ite_false (decide_eq_false (by rw [c0]; exact Bool.false_ne_true)) ?_; wp_walk using wpAny_loadPart' hl)
      | (refine wpAny_ite_false (decide_eq_false (by rw [c1]; exact Bool.false_ne_true)) ?_; wp_walk using wpAny_loadPart' hl)
      | (refine wpAny_ite_true (decide_eq_true c2) ?_; wp_walk using wpAny_loadPart' hl))
    exact ⟨_, rfl, h⟩
def rRepT1 (K : PySem.W.Frag) : R2 := fun x y H Q => ∃ l xs, x = .ref l ∧ y = .int 1 ∧ SqT K H l xs ∧ Q (.ref l) H
def rRepT0 (K : PySem.W.Frag) : R2 := fun x y H Q => ∃ l k xs, x = .ref l ∧ y = .int k ∧ SqT K H l xs ∧ xs ≠ [] ∧ -1000000 ≤ k ∧ k ≤ 0 ∧ ∀ p, H p = none → Q (.ref p) (upd H p (.tup []))
theorem op_repT1 : OpR X (binaryOp .Mult) (rRepT1 X.K) := by
  intro pins s σ H x y v u Q I rx ry h
  obtain ⟨l, xs, rfl, rfl, hT, q⟩ := h
  cases rx
  obtain ⟨t, rfl⟩ := ry
  obtain ⟨its, r, ⟨⟨cls, dd, data, sl⟩, ho, hc, n, hd⟩, hs⟩ := I.tuple hT
  simp only at hc hd
  subst hc hd
  exact wpAny_binaryOp_repeat_ref (T := "tuple") (U := "int") (by decide) ⟨_, ho, rfl⟩ (fun s' => typeIs_int s' 1 t) noFill_tuple_mul F.fills_int_mul F.slot_int_rmul repeat_tuple F.slot_int_index.lookup
    (call_meets F.slot_int_rmul (typeIs_int s 1 t) F.entry_int_rmul (F.args_int_rmul_2 _ _) (int_rmul_tuple 1 t l its.toArray n dd sl)
      ⟨ho, rfl, ⟨_, ho, rfl⟩, call_meets F.slot_tuple_mul ⟨_, ho, rfl⟩ F.entry_tuple_mul (F.args_tuple_mul_2 _ _) (tuple_mul1 l its.toArray n dd sl t) ⟨ho, ⟨.ref l, H, I, rfl, q⟩⟩⟩)
theorem op_repT0 : OpR X (binaryOp .Mult) (rRepT0 X.K) := by
  intro pins s σ H x y v u Q I rx ry h
  obtain ⟨l, k, xs, rfl, rfl, hT, hne, h1, h2, q⟩ := h
  cases rx
  obtain ⟨t, rfl⟩ := ry
  obtain ⟨its, r, ⟨⟨cls, dd, data, sl⟩, ho, hc, n, hd⟩, hs⟩ := I.tuple hT
  simp only at hc hd
  subst hc hd
  have hle : its.length = xs.length := r.length.symm
  have hn : its ≠ [] := fun e => hne (by
    rw [e] at hle
    exact List.eq_nil_of_length_eq_zero hle.symm)
  have hi : its.toArray.isEmpty = false := by
    cases its with
    | nil => exact absurd rfl hn
    | cons a b => rfl
  have c0 : (decide (k < -(2 ^ 63)) || decide (k ≥ 2 ^ 63)) = false := by
    rw [decide_eq_false (by omega), decide_eq_false (by omega)] <;> rfl
  have c1 : (its.toArray.isEmpty || k == 1) = false := by
    rw [hi, Bool.false_or]
    exact beq_eq_false_iff_ne.mpr (by omega)
  have c2 : (decide (k ≤ 0) || its.toArray.isEmpty) = true := by
    rw [decide_eq_true h2]; rfl
  refine wpAny_binaryOp_repeat_ref (T := "tuple") (U := "int") (by decide) ⟨_, ho, rfl⟩ (fun s' => typeIs_int s' k t) noFill_tuple_mul F.fills_int_mul F.slot_int_rmul repeat_tuple F.slot_int_index.lookup
    (call_meets F.slot_int_rmul (typeIs_int s k t) F.entry_int_rmul (F.args_int_rmul_2 _ _) (int_rmul_tuple k t l its.toArray n dd sl)
      ⟨ho, rfl, ⟨_, ho, rfl⟩, call_meets F.slot_tuple_mul ⟨_, ho, rfl⟩ F.entry_tuple_mul (F.args_tuple_mul_2 _ _) (tuple_mul0 l its.toArray n dd sl k t c0 c1 c2) ⟨ho, ?_⟩⟩)
  refine ⟨.ref s.heap.objs.size, _, I.laid (t' := s.toks) (o := .tup []) (fun b ob q => Heap.get?_push_of_some _ q) (Nat.le_refl _) ?_, rfl, q _ (I.hok.fresh (Nat.le_refl _))⟩
  exact ⟨by rw [sizeLine_eq]; decide, [], .nil, IsTup.new _ _⟩
def mulTD : O2 := fun a b O => match a, b with
  | .tup xs, .int k => if decide (xs ≠ []) && decide (-1000000 ≤ k) && decide (k ≤ 1000) && decide (xs.length ≤ 1000) then .ok (.tup (List.replicate k.toNat xs).flatten) O else .bad
  | _, _ => .bad
def rMulT (K : PySem.W.Frag) : R2 := fun x y H Q => rRepT1 K x y H Q ∨ rRepT0 K x y H Q ∨ rRepT K x y H Q
theorem op_mulT : OpR X (binaryOp .Mult) (rMulT X.K) := op_repT1.or (op_repT0.or op_repT)
theorem s_mulT : Sat2 C W (rMulT C.K) mulTD := by
  intro g H O R a b x y sx sy σ Q h
  unfold mulTD at h
  split at h
  · rename_i xs k
    have sx' := sx
    cases sy
    simp only [Shr] at sx
    obtain ⟨a, vs, rfl, a2, a3⟩ := sx
    split at h
    · rename_i hc
      simp only [Bool.and_eq_true, decide_eq_true_eq] at hc
      have hl := shrL_len a3
      have hv : vs ≠ [] := fun z => hc.1.1.1 (by subst z; exact List.eq_nil_of_length_eq_zero (by simpa using hl.symm))
      by_cases h1 : k = 1
      · subst h1
        refine .inl ⟨a, vs, rfl, rfl, ex_t R.F a2, Post.fin R (v := V.ref a) ?_ h⟩
        have : (List.replicate (1 : Int).toNat xs).flatten = xs := by simp
        rw [this]
        exact sx'
      · by_cases h0 : k ≤ 0
        · refine .inr (.inl ⟨a, k, vs, rfl, rfl, ex_t R.F a2, hv, hc.1.1.2, h0, fun p hp => ?_⟩)
          have : k.toNat = 0 := by omega
          rw [this] at h
          exact new_tup R (by simp [ShrL]) h hp
        · exact .inr (.inr ⟨a, k, vs, rfl, rfl, ex_t R.F a2, hv, by omega, hc.1.2, by omega, fun p hp => new_tup R (shrL_rep a3 _) h hp⟩)
    · exact h.elim
  · exact h.elim
variable {a b : Expr} {fa fb : DE0} {pos : Pos}
theorem e_mulT (hK : X.K = C.K) (ha : DE C X W a fa) (hb : DE C X W b fb) : DE C X W (.BinOp a .Mult b pos) (op2 mulTD fa fb) := d_op (op_mulT (X := X)) (by rw [hK]; exact s_mulT) ha hb
/-- texts -/
def mulS2D : O2 := fun a b O => match a, b with
  | .str x, .int k => if decide (x ≠ []) && decide (-1000000 ≤ k) && decide (k ≤ 1000) && decide (x.length ≤ 1000) then .ok (.str (List.replicate k.toNat x).flatten) O else .bad
  | _, _ => .bad
def rRepS2 : R2 := fun x y H Q => ∃ (a : List Nat) (k : Int), x = .str (mkS a) ∧ y = .int k ∧ a ≠ [] ∧ -1000000 ≤ k ∧ k ≤ 1000 ∧ a.length ≤ 1000 ∧ Q (.str (mkS (List.replicate k.toNat a).flatten)) H
theorem op_repS2 : OpR X (binaryOp .Mult) rRepS2 := by
  intro pins s σ H x y v u Q I rx ry h
  obtain ⟨a, k, rfl, rfl, hne, h1, h2, h3, q⟩ := h
  obtain ⟨t, rfl⟩ := rx
  obtain ⟨t', rfl⟩ := ry
  have hl : (mkS a).length = a.length := by simp [mkS, Str.length]
  have h0 : a.length ≠ 0 := fun e => hne (List.eq_nil_of_length_eq_zero e)
  refine P.mul_str ?_ ?_ ?_ ?_
  · rw [decide_eq_false (by omega), decide_eq_false (by omega)]; rfl
  · intro hk _ hh
    rw [hl] at hh
    have h5 : (1000 : Int) ≤ 9223372036854775807 / k := by
      refine (Int.le_ediv_iff_mul_le (by omega)).mpr ?_
      omega
    have h6 : ((2 : Int) ^ 63 - 1) = 9223372036854775807 := by decide
    rw [h6] at hh
    omega
  · intro _ _
    rw [hl]
    have h4 : a.length * k.toNat ≤ 1000 * 1000 := Nat.mul_le_mul h3 (by omega)
    simp only [Builtin.Str.tooLong, decide_eq_false_iff_not]
    have : sizeLine = 2 ^ 24 := rfl
    omega
  · by_cases k0 : k < 1
    · rw [if_pos k0]
      have : k.toNat = 0 := by omega
      rw [this] at q
      refine ⟨by decide, ⟨.str (mkS (List.replicate 0 a).flatten), H, I.tok _, ⟨s.toks, rfl⟩, q⟩⟩
    · rw [if_neg k0]
      by_cases k1 : k = 1
      · subst k1
        rw [if_pos (by rfl)]
        refine ⟨.str (mkS (List.replicate (1 : Int).toNat a).flatten), H, I, ⟨t, ?_⟩, q⟩
        have : (List.replicate (1 : Int).toNat a).flatten = a := by simp
        rw [this]
      · have hb : (k == 1 || (mkS a).length == 0) = false := by
          rw [hl, Bool.or_eq_false_iff]
          exact ⟨beq_eq_false_iff_ne.mpr k1, beq_eq_false_iff_ne.mpr h0⟩
        rw [if_neg (by rw [hb]; decide)]
        have e : (⟨(List.replicate k.toNat (mkS a).cps).foldl (· ++ ·) #[]⟩ : Str) = mkS (List.replicate k.toNat a).flatten := by
          rw [fold_app]; simp [mkS]
        rw [e]
        have h4 : k.toNat * a.length ≤ 1000 * 1000 := Nat.mul_le_mul (by omega) h3
        refine ⟨?_, ⟨.str (mkS (List.replicate k.toNat a).flatten), H, I.tok _, ⟨s.toks, rfl⟩, q⟩⟩
        have h7 : (mkS (List.replicate k.toNat a).flatten).length = k.toNat * a.length := by simp [mkS, Str.length]
        have : sizeLine = 2 ^ 24 := rfl
        rw [h7, this]; omega
theorem s_mulS2 : Sat2 C W rRepS2 mulS2D := by
  intro g H O R a b x y sx sy σ Q h
  unfold mulS2D at h
  split at h
  · cases sx; cases sy
    split at h
    · rename_i hc
      simp only [Bool.and_eq_true, decide_eq_true_eq] at hc
      exact ⟨_, _, rfl, rfl, hc.1.1.1, hc.1.1.2, hc.1.2, hc.2, Post.fin R rfl h⟩
    · exact h.elim
  · exact h.elim
theorem e_mulS2 (ha : DE C X W a fa) (hb : DE C X W b fb) : DE C X W (.BinOp a .Mult b pos) (op2 mulS2D fa fb) := d_op op_repS2 s_mulS2 ha hb
end
end Dn
set_option Elab.async false
set_option linter.all false
set_option maxRecDepth 100000
set_option maxHeartbeats 4000000
namespace Dn
open PySem PySem.Spec PyProof.Rows L2
section
variable {C : Ctx} {X : Cx} {W : WX}
theorem CallR.or {v : Value} {r r' : List V → Hp → VK → Prop} (h : CallR X v r) (h' : CallR X v r') : CallR X v (fun xs H Q => r xs H Q ∨ r' xs H Q) :=
  fun pins s σ H xs us Q I rs q => q.elim (h pins s σ H xs us Q I rs) (h' pins s σ H xs us Q I rs)
/-! ### lists of whole numbers -/
def intsD : List D → Option (List Int)
  | [] => some []
  | .int i :: ds => (intsD ds).map (i :: ·)
  | _ :: _ => none
theorem shrL_intsD {K : PySem.W.Frag} {g : G} : ∀ {ds : List D} {ns : List Int} {vs : List V}, intsD ds = some ns → ShrL K g ds vs → vs = ns.map V.int
  | [], ns, vs, e, s => by simp [intsD] at e; subst e; simp only [ShrL] at s; rw [s]; rfl
  | d :: ds, ns, vs, e, s => by
    cases d with
    | int i =>
      simp only [intsD, Option.map_eq_some_iff] at e
      obtain ⟨ms, e1, rfl⟩ := e
      simp only [ShrL] at s
      obtain ⟨v, q, rfl, sv, sq⟩ := s
      cases sv
      rw [shrL_intsD e1 sq]; rfl
    | _ => simp [intsD] at e
theorem intsD_map : ∀ ns : List Int, intsD (ns.map D.int) = some ns
  | [] => rfl
  | n :: ns => by simp [intsD, intsD_map ns]
def min1F : List D → Sto → ER := fun ds O => match ds with
  | [d] => (match listR d O with | some xs => (match intsD xs with | some ns => (match ns.min? with | some m => .ok (.int m) O | none => .bad) | none => .bad) | none => .bad)
  | _ => .bad
def max1F : List D → Sto → ER := fun ds O => match ds with
  | [d] => (match listR d O with | some xs => (match intsD xs with | some ns => (match ns.max? with | some m => .ok (.int m) O | none => .bad) | none => .bad) | none => .bad)
  | _ => .bad
theorem s_min1 : SatC C W (rMin C.K) min1F := by
  intro g H O R ds vs s σ Q h
  unfold min1F at h
  split at h
  · rename_i d
    obtain ⟨v, rfl, sv⟩ := shrL_one s
    split at h
    · rename_i xs ex
      split at h
      · rename_i ns en
        split at h
        · rename_i m em
          obtain ⟨a, ws, rfl, h1, h2⟩ := listR_of R sv ex
          have hw := shrL_intsD en h2
          subst hw
          obtain ⟨m1, m2⟩ := (List.min?_eq_some_iff).mp em
          refine ⟨a, ns, rfl, h1, List.length_pos_of_mem m1, fun k hk hl => ?_⟩
          have : k = m := by have := hl m m1; have := m2 k hk; omega
          subst this
          exact Post.fin R rfl h
        · exact h.elim
      · exact h.elim
    · exact h.elim
  · exact h.elim
theorem s_max1 : SatC C W (rMax C.K) max1F := by
  intro g H O R ds vs s σ Q h
  unfold max1F at h
  split at h
  · rename_i d
    obtain ⟨v, rfl, sv⟩ := shrL_one s
    split at h
    · rename_i xs ex
      split at h
      · rename_i ns en
        split at h
        · rename_i m em
          obtain ⟨a, ws, rfl, h1, h2⟩ := listR_of R sv ex
          have hw := shrL_intsD en h2
          subst hw
          obtain ⟨m1, m2⟩ := (List.max?_eq_some_iff).mp em
          refine ⟨a, ns, rfl, h1, List.length_pos_of_mem m1, fun k hk hl => ?_⟩
          have : k = m := by have := hl m m1; have := m2 k hk; omega
          subst this
          exact Post.fin R rfl h
        · exact h.elim
      · exact h.elim
    · exact h.elim
  · exact h.elim
variable {e : Expr} {es : List Expr} {fas : Rho → Sto → Res (List D)} {p pos : Pos}
theorem e_min1 (hK : X.K = C.K) (hc : X.calm = true) (hm : X.mg "min" = none) (hg : Gl X "min") (ha : DA C X W (e :: es) fas)
    (he : starEach (e :: es) X.env = (false, eval e X.env) :: starEach es X.env := by rfl) (hpl : (backTo pos (starEach es X.env)).any (·.1) = false := by rfl) : DE C X W (.Call (.Name "min" p) (e :: es) [] pos) (callE min1F fas) :=
  d_callB (cr_min hc) (by rw [hK]; exact s_min1) hg hm (by decide +kernel) ha (by decide) (by decide) he hpl
theorem e_max1 (hK : X.K = C.K) (hc : X.calm = true) (hm : X.mg "max" = none) (hg : Gl X "max") (ha : DA C X W (e :: es) fas)
    (he : starEach (e :: es) X.env = (false, eval e X.env) :: starEach es X.env := by rfl) (hpl : (backTo pos (starEach es X.env)).any (·.1) = false := by rfl) : DE C X W (.Call (.Name "max" p) (e :: es) [] pos) (callE max1F fas) :=
  d_callB (cr_max hc) (by rw [hK]; exact s_max1) hg hm (by decide +kernel) ha (by decide) (by decide) he hpl
/-! ### sorted -/
theorem ltCps_eq : ∀ a b : List Nat, ltCps a b = decide (a < b)
  | [], [] => by simp [ltCps]
  | [], _ :: _ => by simp [ltCps]
  | _ :: _, [] => by simp [ltCps]
  | a :: r, b :: t => by
    rw [StrLaws.lt_cons_cons, ltCps, ltCps_eq r t]
def leS (a b : List Nat) : Bool := !ltCps b a
theorem leS_iff (a b : List Nat) : leS a b = true ↔ a ≤ b := by
  unfold leS
  rw [ltCps_eq]
  simp
theorem leS_trans (a b c : List Nat) (h : leS a b = true) (k : leS b c = true) : leS a c = true := by
  rw [leS_iff] at *
  exact List.le_trans h k
theorem leS_total (a b : List Nat) : (leS a b || leS b a) = true := by
  rw [Bool.or_eq_true, leS_iff, leS_iff]
  exact List.le_total a b
theorem leS_anti (a b : List Nat) (h : leS a b = true) (k : leS b a = true) : a = b := by
  rw [leS_iff] at *
  exact List.le_antisymm h k
def sortS (l : List (List Nat)) : List (List Nat) := l.mergeSort leS
theorem risingS_pw : ∀ (r : List Str) (p : Str), risingS p r = true → (∀ x ∈ r, leS p.cps.toList x.cps.toList = true) ∧ r.Pairwise (fun a b => leS a.cps.toList b.cps.toList = true)
  | [], p, _ => ⟨fun _ h => (nomatch h), List.Pairwise.nil⟩
  | x :: r, p, h => by
    simp only [risingS, Bool.and_eq_true] at h
    obtain ⟨h1, h2⟩ := risingS_pw r x h.2
    have h0 : leS p.cps.toList x.cps.toList = true := h.1
    refine ⟨fun y hy => ?_, List.Pairwise.cons h1 h2⟩
    rcases List.mem_cons.mp hy with rfl | hy
    · exact h0
    · exact leS_trans _ _ _ h0 (h1 y hy)
theorem sortedS_pw {ys : List Str} (h : sortedS ys = true) : ys.Pairwise (fun a b => leS a.cps.toList b.cps.toList = true) := by
  cases ys with
  | nil => exact .nil
  | cons x r => exact List.Pairwise.cons (risingS_pw r x h).1 (risingS_pw r x h).2
theorem sortS_is {ys : List Str} {xs : List (List Nat)} (hp : ys.Perm (xs.map mkS)) (hs : sortedS ys = true) : ys = (sortS xs).map mkS := by
  have h1 : (ys.map TL.tl).Perm xs := by
    have := hp.map TL.tl
    rw [map_tl_mkS] at this
    exact this
  have h2 : (ys.map TL.tl).Pairwise (fun a b => leS a b = true) := by
    rw [List.pairwise_map]; exact sortedS_pw hs
  have h3 : (sortS xs).Pairwise (fun a b => leS a b = true) := List.pairwise_mergeSort leS_trans leS_total xs
  have h4 : ys.map TL.tl = sortS xs := List.Perm.eq_of_pairwise (fun a b _ _ => leS_anti a b) h2 h3 (h1.trans (List.mergeSort_perm _ _).symm)
  refine TL.map_tl_inj ?_
  rw [h4, map_tl_mkS]
def sortI (l : List Int) : List Int := l.mergeSort fun a b => decide (a ≤ b)
theorem sortI_is {ys xs : List Int} (hp : ys.Perm xs) (hs : ys.Pairwise (· ≤ ·)) : ys = sortI xs := by
  have h3 : (sortI xs).Pairwise (fun a b => decide (a ≤ b) = true) := List.pairwise_mergeSort (fun a b c h k => by simp at *; omega) (fun a b => by simp; omega) xs
  refine List.Perm.eq_of_pairwise (le := fun a b => a ≤ b) (fun a b _ _ h k => by omega) hs (h3.imp fun h => by simpa using h) (hp.trans (List.mergeSort_perm _ _).symm)
/-- tuples of whole numbers, below 2^40 -/
abbrev bigB : Int := 1099511627776
def tupsD (d : Nat) : List D → Option (List (List Int))
  | [] => some []
  | .tup xs :: ds => match intsD xs with
    | some ns => if decide (ns.length = d) && ns.all (fun n => decide (0 ≤ n) && decide (n < bigB)) then (tupsD d ds).map (ns :: ·) else none
    | none => none
  | _ :: _ => none
def leT (a b : List Int) : Bool := decide (TS.code bigB a ≤ TS.code bigB b)
def sortT (l : List (List Int)) : List (List Int) := l.mergeSort leT
theorem code_inj' : ∀ {a b : List Int}, a.length = b.length → TS.Bd bigB a → TS.Bd bigB b → TS.code bigB a = TS.code bigB b → a = b
  | [], [], _, _, _, _ => rfl
  | [], _ :: _, h, _, _, _ => by simp at h
  | _ :: _, [], h, _, _, _ => by simp at h
  | x :: a, y :: b, h, h1, h2, e => by
    have hl : a.length = b.length := by simpa using h
    have hxy : x = y := by
      rcases Int.lt_trichotomy x y with q | q | q
      · have := TS.code_lt hl h1.tail h2.tail q; omega
      · exact q
      · have := TS.code_lt hl.symm h2.tail h1.tail q; omega
    subst hxy
    have e' : TS.code bigB a = TS.code bigB b := by
      have e1 : x * bigB ^ a.length + TS.code bigB a = x * bigB ^ b.length + TS.code bigB b := e
      rw [hl] at e1
      omega
    rw [code_inj' hl h1.tail h2.tail e']
theorem tupsD_spec {d : Nat} : ∀ {ds : List D} {L : List (List Int)}, tupsD d ds = some L → ds = L.map (fun ns => D.tup (ns.map D.int)) ∧ ∀ ns ∈ L, ns.length = d ∧ TS.Bd bigB ns
  | [], L, h => by simp [tupsD] at h; subst h; exact ⟨rfl, fun _ h => nomatch h⟩
  | e :: ds, L, h => by
    cases e with
    | tup xs =>
      simp only [tupsD] at h
      split at h
      · rename_i ns en
        split at h
        · rename_i hc
          simp only [Option.map_eq_some_iff] at h
          obtain ⟨L', h1, rfl⟩ := h
          obtain ⟨r1, r2⟩ := tupsD_spec h1
          have hx : xs = ns.map D.int := by
            have : ∀ (xs : List D) (ns : List Int), intsD xs = some ns → xs = ns.map D.int := by
              intro xs
              induction xs with
              | nil => intro ns h; simp [intsD] at h; subst h; rfl
              | cons a xs ih =>
                intro ns h
                cases a with
                | int i =>
                  simp only [intsD, Option.map_eq_some_iff] at h
                  obtain ⟨ms, h2, rfl⟩ := h
                  rw [ih ms h2]; rfl
                | _ => simp [intsD] at h
            exact this xs ns en
          simp only [Bool.and_eq_true, decide_eq_true_eq, List.all_eq_true] at hc
          refine ⟨by rw [r1, hx]; rfl, fun m hm => ?_⟩
          rcases List.mem_cons.mp hm with rfl | hm
          · exact ⟨hc.1, hc.2⟩
          · exact r2 m hm
        · cases h
      · cases h
    | _ => simp [tupsD] at h
theorem shrL_perm {K : PySem.W.Frag} {g : G} {vs ws : List V} (hp : ws.Perm vs) : ∀ {ds : List D}, ShrL K g ds vs → ∃ es, es.Perm ds ∧ ShrL K g es ws := by
  induction hp with
  | nil => intro ds h; exact ⟨ds, List.Perm.refl _, h⟩
  | cons x p ih =>
    intro ds h
    cases ds with
    | nil => simp [ShrL] at h
    | cons d ds =>
      simp only [ShrL] at h
      obtain ⟨v, r, e, h2, h3⟩ := h
      cases e
      obtain ⟨es, i1, i2⟩ := ih h3
      exact ⟨d :: es, i1.cons d, by simp only [ShrL]; exact ⟨_, _, rfl, h2, i2⟩⟩
  | swap x y l =>
    intro ds h
    match ds, h with
    | [], h => simp [ShrL] at h
    | [_], h => simp [ShrL] at h
    | d1 :: d2 :: ds, h =>
      simp only [ShrL] at h
      obtain ⟨v, r, e, h2, v2, r2, e2, h4, h5⟩ := h
      cases e; cases e2
      exact ⟨d2 :: d1 :: ds, List.Perm.swap _ _ _, by simp only [ShrL]; exact ⟨_, _, rfl, h4, _, _, rfl, h2, h5⟩⟩
  | trans p q ih1 ih2 =>
    intro ds h
    obtain ⟨es, a1, a2⟩ := ih2 h
    obtain ⟨fs, b1, b2⟩ := ih1 a2
    exact ⟨fs, b1.trans a1, b2⟩
theorem perm_map_inv {α β : Type} {f : α → β} {es xs : List β} (hp : es.Perm xs) : ∀ {L : List α}, xs = L.map f → ∃ L' : List α, es = L'.map f ∧ L'.Perm L := by
  induction hp with
  | nil => intro L h; exact ⟨L, h, List.Perm.refl _⟩
  | cons x p ih =>
    intro L h
    cases L with
    | nil => cases h
    | cons a L =>
      rw [List.map_cons] at h
      injection h with h1 h2
      obtain ⟨L', e, q⟩ := ih h2
      exact ⟨a :: L', by rw [List.map_cons, h1, e], q.cons a⟩
  | swap x y l =>
    intro L h
    match L, h with
    | [], h => cases h
    | [_], h => simp at h
    | a :: b :: L, h =>
      simp only [List.map_cons] at h
      injection h with h1 h2
      injection h2 with h2 h3
      exact ⟨b :: a :: L, by simp only [List.map_cons]; rw [h1, h2, h3], List.Perm.swap _ _ _⟩
  | trans p q ih1 ih2 =>
    intro L h
    obtain ⟨L1, e1, q1⟩ := ih2 h
    obtain ⟨L2, e2, q2⟩ := ih1 e1
    exact ⟨L2, e2, q2.trans q1⟩
/-- a dict's keys -/
def strKeys : List (DKey × D) → Option (List (List Nat))
  | [] => some []
  | (.inr x, _) :: r => (strKeys r).map (x :: ·)
  | _ :: _ => none
def intKeys : List (DKey × D) → Option (List Int)
  | [] => some []
  | (.inl x, _) :: r => (intKeys r).map (x :: ·)
  | _ :: _ => none
theorem shrK_strKeys {K : PySem.W.Frag} {g : G} : ∀ {kvs : List (DKey × D)} {ks : List (List Nat)} {vs : List (Key × V)}, strKeys kvs = some ks → ShrK K g kvs vs → vs.map (·.1) = (ks.map mkS).map Sum.inr
  | [], ks, vs, e, s => by simp [strKeys] at e; subst e; simp only [ShrK] at s; rw [s]; rfl
  | (k, d) :: r, ks, vs, e, s => by
    cases k with
    | inr x =>
      simp only [strKeys, Option.map_eq_some_iff] at e
      obtain ⟨ms, e1, rfl⟩ := e
      simp only [ShrK] at s
      obtain ⟨v, q, rfl, sv, sq⟩ := s
      rw [List.map_cons, shrK_strKeys e1 sq]; rfl
    | inl x => simp [strKeys] at e
theorem shrK_intKeys {K : PySem.W.Frag} {g : G} : ∀ {kvs : List (DKey × D)} {ks : List Int} {vs : List (Key × V)}, intKeys kvs = some ks → ShrK K g kvs vs → vs.map (·.1) = ks.map Sum.inl
  | [], ks, vs, e, s => by simp [intKeys] at e; subst e; simp only [ShrK] at s; rw [s]; rfl
  | (k, d) :: r, ks, vs, e, s => by
    cases k with
    | inl x =>
      simp only [intKeys, Option.map_eq_some_iff] at e
      obtain ⟨ms, e1, rfl⟩ := e
      simp only [ShrK] at s
      obtain ⟨v, q, rfl, sv, sq⟩ := s
      rw [List.map_cons, shrK_intKeys e1 sq]; rfl
    | inr x => simp [intKeys] at e
def tlen : List D → Nat
  | .tup xs :: _ => xs.length
  | _ => 0
def sortedF (m : Bool) : List D → Sto → ER := fun ds O => match ds with
  | [d] => (match dicOf d O with
    | some (_, kvs) => (match strKeys kvs with
      | some ks => if ks.length < 64 then mkL m ((sortS ks).map D.str) O else .bad
      | none => match intKeys kvs with
        | some ks => if ks.length < 64 then mkL m ((sortI ks).map D.int) O else .bad
        | none => .bad)
    | none => match listR d O with
      | some xs => (match strsD xs with
        | some ys => if ys.length < 64 then mkL m ((sortS ys).map D.str) O else .bad
        | none => match intsD xs with
          | some ns => mkL m ((sortI ns).map D.int) O
          | none => match tupsD (tlen xs) xs with
            | some L => if decide (L.length < 64) && decide (1 ≤ tlen xs) then mkL m ((sortT L).map fun ns => D.tup (ns.map D.int)) O else .bad
            | none => .bad)
      | none => .bad)
  | _ => .bad
def rSrtD : List V → Hp → VK → Prop := fun xs H Q => ∃ (a : Addr) (kvs : List (Key × V)) (ks : List Str), xs = [.ref a] ∧ Rd H a (.dK kvs) ∧ kvs.map (·.1) = ks.map Sum.inr ∧ ks.length < 64 ∧ ∀ ys p, ys.Perm ks → sortedS ys = true → H p = none → Q (.ref p) (upd H p (.lst (ys.map V.str)))
def rSrtDI : List V → Hp → VK → Prop := fun xs H Q => ∃ (a : Addr) (kvs : List (Key × V)) (ks : List Int), xs = [.ref a] ∧ Rd H a (.dK kvs) ∧ kvs.map (·.1) = ks.map Sum.inl ∧ ks.length < 64 ∧ ∀ (ys : List Int) (p : Addr), ys.Perm ks → ys.Pairwise (· ≤ ·) → H p = none → Q (.ref p) (upd H p (.lst (ys.map V.int)))
def rSrt (K : PySem.W.Frag) : List V → Hp → VK → Prop := fun xs H Q => rSrtD xs H Q ∨ rSrtDI xs H Q ∨ rSortedS K xs H Q ∨ rSortedI K xs H Q ∨ ∃ d : Nat, 1 ≤ d ∧ rSortU K d bigB xs H Q
theorem call_srt (hc : X.calm = true) : CallR X (.builtin "sorted") (rSrt X.K) :=
  CallR.or (call_sortedD hc) (CallR.or (call_sortedDI hc) (CallR.or cr_sortedS (CallR.or cr_sortedI fun pins s σ H xs us Q I rs ⟨d, hd, q⟩ => cr_sortT (B := bigB) hd pins s σ H xs us Q I rs q)))
theorem s_sorted (m : Bool) : SatC C W (rSrt C.K) (sortedF m) := by
  intro g H O R ds vs s σ Q h
  unfold sortedF at h
  split at h
  · rename_i d
    obtain ⟨v, rfl, sv⟩ := shrL_one s
    split at h
    · rename_i l kvs eq
      obtain ⟨rfl, _, _, ws, h2, h3⟩ := dicOf_of R sv eq
      split at h
      · rename_i ks ek
        split at h
        · rename_i hz
          refine .inl ⟨_, ws, ks.map mkS, rfl, .inl h2, shrK_strKeys ek h3, by simpa using hz, fun ys p hp hs hn => ?_⟩
          rw [sortS_is hp hs]
          exact new_lst R (strs_shrL _) h hn
        · exact h.elim
      · split at h
        · rename_i ks ek
          split at h
          · rename_i hz
            refine .inr (.inl ⟨_, ws, ks, rfl, .inl h2, shrK_intKeys ek h3, hz, fun ys p hp hs hn => ?_⟩)
            rw [sortI_is hp hs]
            exact new_lst R (shrL_ints _) h hn
          · exact h.elim
        · exact h.elim
    · split at h
      · rename_i xs ex
        obtain ⟨a, ws, rfl, h1, h2⟩ := listR_of R sv ex
        split at h
        · rename_i ys ey
          split at h
          · rename_i hz
            have hw := shrL_strs ey h2
            subst hw
            refine .inr (.inr (.inl ⟨a, ys.map mkS, rfl, h1, by simpa using hz, fun zs p hp hs hn => ?_⟩))
            rw [sortS_is hp hs]
            exact new_lst R (strs_shrL _) h hn
          · exact h.elim
        · split at h
          · rename_i ns en
            have hw := shrL_intsD en h2
            subst hw
            refine .inr (.inr (.inr (.inl ⟨a, ns, rfl, h1, fun zs p hp hs hn => ?_⟩)))
            rw [sortI_is hp hs]
            exact new_lst R (shrL_ints _) h hn
          · split at h
            · rename_i L eL
              split at h
              · rename_i hz
                simp only [Bool.and_eq_true, decide_eq_true_eq] at hz
                obtain ⟨r1, r2⟩ := tupsD_spec eL
                have hl : ws.length = L.length := by rw [shrL_len h2, r1]; simp
                have tupI : ∀ {ns : List Int} {w : V}, Shr C.K g (.tup (ns.map D.int)) w → TupI C.K H w ns := fun {ns w} hw => by
                  simp only [Shr] at hw
                  obtain ⟨b, us, rfl, k2, k3⟩ := hw
                  have := shrL_intsD (intsD_map ns) k3
                  subst this
                  exact ⟨b, rfl, ex_t R.F k2⟩
                refine .inr (.inr (.inr (.inr ⟨tlen xs, hz.2, a, ws, rfl, h1, by rw [hl]; exact hz.1, ?_, fun us p hp hs hn => ?_⟩)))
                · have : ∀ d ∈ xs, ∃ ns ∈ L, d = D.tup (ns.map D.int) := by
                    rw [r1]
                    intro d hd
                    obtain ⟨ns, hn, rfl⟩ := List.mem_map.mp hd
                    exact ⟨ns, hn, rfl⟩
                  exact shrL_mem h2 (P := fun d => ∃ ns ∈ L, d = D.tup (ns.map D.int)) (Q := fun w => ∃ ns, TupI C.K H w ns ∧ ns.length = tlen xs ∧ TS.Bd bigB ns) (fun d w _ sw ⟨ns, hn, e⟩ => by
                    subst e
                    exact ⟨ns, tupI sw, r2 ns hn⟩) this
                · obtain ⟨es, p1, p2⟩ := shrL_perm hp h2
                  -- what is listed is tuples again
                  have hes : ∃ L' : List (List Int), es = L'.map (fun ns => D.tup (ns.map D.int)) ∧ L'.Perm L := by
                    rw [r1] at p1
                    exact perm_map_inv p1 rfl
                  obtain ⟨L', rfl, pL⟩ := hes
                  have hpw : L'.Pairwise (fun a b => leT a b = true) := by
                    have gen : ∀ (L' : List (List Int)) (us : List V), ShrL C.K g (L'.map fun ns => D.tup (ns.map D.int)) us → us.Pairwise (fun x y => ∀ n m, TupI C.K H x n → TupI C.K H y m → TS.code bigB n ≤ TS.code bigB m) → L'.Pairwise (fun a b => leT a b = true) := by
                      intro L'
                      induction L' with
                      | nil => intros; exact .nil
                      | cons a L' ih =>
                        intro us hu pw
                        simp only [List.map_cons, ShrL] at hu
                        obtain ⟨w, r, rfl, sw, sr⟩ := hu
                        cases pw with
                        | cons q1 q2 =>
                          refine .cons (fun b hb => ?_) (ih r sr q2)
                          obtain ⟨i, hi⟩ := List.getElem?_of_mem hb
                          obtain ⟨u, e1, e2⟩ := shrL_get sr (i := i) (d := .tup (b.map D.int)) (by rw [List.getElem?_map, hi]; rfl)
                          exact decide_eq_true (q1 u (List.mem_of_getElem? e1) a b (tupI sw) (tupI e2))
                    exact gen L' us p2 hs
                  have hsame : L' = sortT L := by
                    have h3 : (sortT L).Pairwise (fun a b => leT a b = true) := List.pairwise_mergeSort (fun a b c h k => by simp [leT] at *; omega) (fun a b => by simp [leT]; omega) L
                    refine List.Perm.eq_of_pairwise (fun a b ha hb q1 q2 => ?_) hpw h3 (pL.trans (List.mergeSort_perm _ _).symm)
                    have ha' := r2 a (pL.subset ha)
                    have hb' := r2 b ((List.mergeSort_perm _ _).subset hb)
                    simp only [leT, decide_eq_true_eq] at q1 q2
                    exact code_inj' (ha'.1.trans hb'.1.symm) ha'.2 hb'.2 (Int.le_antisymm q1 q2)
                  subst hsame
                  exact new_lst R p2 h hn
              · exact h.elim
            · exact h.elim
      · exact h.elim
  · exact h.elim
theorem e_sorted (m : Bool) (hK : X.K = C.K) (hc : X.calm = true) (hm : X.mg "sorted" = none) (hg : Gl X "sorted") (ha : DA C X W (e :: es) fas)
    (he : starEach (e :: es) X.env = (false, eval e X.env) :: starEach es X.env := by rfl) (hpl : (backTo pos (starEach es X.env)).any (·.1) = false := by rfl) : DE C X W (.Call (.Name "sorted" p) (e :: es) [] pos) (callE (sortedF m) fas) :=
  d_callB (call_srt hc) (by rw [hK]; exact s_sorted m) hg hm (by decide +kernel) ha (by decide) (by decide) he hpl
end
end Dn
set_option Elab.async false
set_option linter.all false
set_option maxRecDepth 100000
set_option maxHeartbeats 4000000
namespace Dn
open PySem PySem.Spec PyProof.Rows L2
section
variable {C : Ctx} {X : Cx} {W : WX} {o e f x : Expr} {fo fa fb : DE0} {p apos cpos pos pos' : Pos}
/-! ### try with two clauses -/
def tryS2 (i j : Nat) (f h1 h2 : DS0) : DS0 := fun r O => match f r O with
  | .exc e r1 O1 => if e.cls = i then (match h1 r1 O1 with | .exc _ _ _ => .bad | y => y) else if e.cls = j then (match h2 r1 O1 with | .exc _ _ _ => .bad | y => y) else .exc e r1 O1
  | y => y
theorem suite_post {g g' : G} {H H' : Hp} {r1 : Rho} {O1 : Sto} {h : DS0} {E : Ends} (ex : Ext g H g' H') (R' : RepO C g' H' O1) {σ' : L2.St} (S' : RepS C g' σ' r1)
    (q : PostS C W g H (match h r1 O1 with | .exc _ _ _ => .bad | y => y) E) : tOf C noW h E σ' H' := by
  refine ⟨g', r1, O1, R', S', ?_⟩
  cases y : h r1 O1 with
  | exc _ _ _ => rw [y] at q; exact q.elim
  | nx _ _ => rw [y] at q; exact PostS.shift (x := .nx _ _) ex q
  | ret _ _ => rw [y] at q; exact PostS.shift (x := .ret _ _) ex q
  | bk _ _ => rw [y] at q; exact PostS.shift (x := .bk _ _) ex q
  | ct _ _ => rw [y] at q; exact PostS.shift (x := .ct _ _) ex q
  | bad => rw [y] at q; exact q
theorem s_try2 (i j : Nat) {x1 x2 : Str} {c1 c2 : Value} {n1 n2 p1 p2 : Pos} {b1 b2 : Stmt} {body su1 su2 : List Stmt} {f h1 h2 : DS0} (hs : X.stack = X.env :: X.outer) (hf : X.env.frame = some X.env.locals) (hK : X.K = C.K) (hc1 : Names X x1 c1) (hc2 : Names X x2 c2) (tk : Takes X W)
    (hm1 : ∀ k A', C.ec k = some A' → PySem.W.exmOne C.K (.ref A') c1 = some (decide (k = i)))
    (hm2 : ∀ k A', C.ec k = some A' → PySem.W.exmOne C.K (.ref A') c2 = some (decide (k = j)))
    (hb : ∀ (W' : WX) (pn : List (Addr × Obj)) (xe : Value → Shared → Prop), Takes (X.tr pn xe) W' → PassesOwn (model X.prog X.w) X.A X.env xe → DSs C (X.tr pn xe) W' body f)
    (hsu1 : ∀ (a : Addr) (pn : List (Addr × Obj)), DSs C (X.suite a pn) noW (b1 :: su1) h1)
    (hsu2 : ∀ (a : Addr) (pn : List (Addr × Obj)), DSs C (X.suite a pn) noW (b2 :: su2) h2) :
    DS C X W (.Try body [.ExceptHandler (some (.Name x1 n1)) none (b1 :: su1) p1, .ExceptHandler (some (.Name x2 n2)) none (b2 :: su2) p2] [] [] pos) (tryS2 i j f h1 h2) :=
  ⟨_, ps_try_many (tb := fun W' => tOf C W' f) (l := [(c1, fun _ _ _ => tOf C noW h1), (c2, fun _ _ _ => tOf C noW h2)]) (Wout := W) hs hf tk (fun W' pn xe t p => pss_of (hb W' pn xe t p))
    (.cons hc1 (fun a oe cls d pn _ _ => pss_of (hsu1 a _)) (.cons hc2 (fun a oe cls d pn _ _ => pss_of (hsu2 a _)) .nil)), fun g σ H r O R S E q => by
    refine ⟨g, r, O, R, S, ?_⟩
    unfold tryS2 at q
    cases z : f r O with
    | nx r1 O1 => rw [z] at q; exact q
    | ret d O1 => rw [z] at q; exact q
    | bk r1 O1 => rw [z] at q; exact q
    | ct r1 O1 => rw [z] at q; exact q
    | bad => rw [z] at q; exact q
    | exc e r1 O1 =>
      rw [z] at q
      intro cv dx σ' g' H' ex R' S' er
      obtain ⟨A', k1, rfl, k3⟩ := id er
      dsimp only at q
      refine ⟨decide (e.cls = i), by rw [hK]; exact hm1 _ _ k1, fun hb a _ => ?_, fun hb => ⟨decide (e.cls = j), by rw [hK]; exact hm2 _ _ k1, fun hb2 a _ => ?_, fun hb2 => ?_⟩⟩
      · simp only [decide_eq_true_eq] at hb
        rw [if_pos hb] at q
        exact suite_post ex R' S' q
      · simp only [decide_eq_false_iff_not] at hb
        simp only [decide_eq_true_eq] at hb2
        rw [if_neg hb, if_pos hb2] at q
        exact suite_post ex R' S' q
      · simp only [decide_eq_false_iff_not] at hb hb2
        rw [if_neg hb, if_neg hb2] at q
        exact q _ _ _ _ _ ex R' S' er⟩
/-! ### displays of dicts -/
def ShrPP (K : PySem.W.Frag) (g : G) : List (D × D) → List (V × V) → Prop
  | [], vs => vs = []
  | p :: ps, vs => ∃ v w r, vs = (v, w) :: r ∧ Shr K g p.1 v ∧ Shr K g p.2 w ∧ ShrPP K g ps r
theorem ShrPP.mono {K : PySem.W.Frag} {g g' : G} (e : GLe g g') : ∀ (ps : List (D × D)) (vs : List (V × V)), ShrPP K g ps vs → ShrPP K g' ps vs
  | [], _, h => h
  | p :: ps, vs, ⟨v, w, r, h1, h2, h3, h4⟩ => ⟨v, w, r, h1, Shr.mono e _ _ h2, Shr.mono e _ _ h3, ShrPP.mono e ps r h4⟩
instance : Rel (List (D × D)) (List (V × V)) := ⟨fun C => ShrPP C.K, fun e h => ShrPP.mono e _ _ h⟩
abbrev DP0 := Rho → Sto → Res (List (D × D))
structure DPs (C : Ctx) (X : Cx) (W : WX) (pos : Pos) (ks : List (Option Expr)) (vs : List Expr) (f : DP0) : Prop where
  ex : ∃ trs, PPs X pos ks vs trs ∧ Sat C W (tPairs trs) f
def nilP : DP0 := fun _ O => .ok [] O
def consP (fk fv : DE0) (rest : DP0) : DP0 := fun r O => (fk r O).bind fun k O1 => (fv r O1).bind fun v O2 => (rest r O2).bind fun ps O3 => .ok ((k, v) :: ps) O3
theorem p_nil : DPs C X W pos [] [] nilP := ⟨_, pps_nil, fun g σ H r O R S Q h => Post.fin (v := []) R (show ShrPP _ _ [] [] from rfl) h⟩
theorem p_cons {k v : Expr} {ks : List (Option Expr)} {vs : List Expr} {fk fv : DE0} {rest : DP0} (hk : DE C X W k fk) (hv : DE C X W v fv) (hr : DPs C X W pos ks vs rest) : DPs C X W pos (some k :: ks) (v :: vs) (consP fk fv rest) :=
  let ⟨_, pk, sk⟩ := hk.ex; let ⟨_, pv, sv⟩ := hv.ex; let ⟨_, pr, sr⟩ := hr.ex
  ⟨_, pps_cons pk pv pr, fun g σ H r O R S Q h => sk.seq R S h fun a O1 va g1 H1 e1 R1 S1 s1 h1 => sv.seq R1 S1 h1 fun b O2 vb g2 H2 e2 R2 S2 s2 h2 =>
    sr.seq R2 S2 h2 fun ps O3 vps g3 H3 e3 R3 S3 s3 h3 => Post.fin (v := (va, vb) :: vps) R3 (show ShrPP _ _ ((a, b) :: ps) _ from ⟨va, vb, vps, rfl, (Shr.mono e2.le _ _ s1 |>.mono e3.le), Shr.mono e3.le _ _ s2, s3⟩) h3⟩
def keysD : List (D × D) → Option (List (DKey × D))
  | [] => some []
  | (k, v) :: ps => match keyD k with | some k => (keysD ps).map ((k, v) :: ·) | none => none
def mergeD (acc kvs : List (DKey × D)) : List (DKey × D) := kvs.foldl (fun acc kv => putD acc kv.1 kv.2) acc
theorem keysD_of {K : PySem.W.Frag} {g : G} : ∀ {ps : List (D × D)} {kvs : List (DKey × D)} {vs : List (V × V)}, keysD ps = some kvs → ShrPP K g ps vs → ∃ ws, vs = ws.map (fun kv => (kV kv.1, kv.2)) ∧ ShrK K g kvs ws
  | [], kvs, vs, h, s => by simp [keysD] at h; subst h; exact ⟨[], s, by simp [ShrK]⟩
  | (k, v) :: ps, kvs, vs, h, s => by
    simp only [keysD] at h
    split at h
    · rename_i k' ek
      simp only [Option.map_eq_some_iff] at h
      obtain ⟨kvs', h1, rfl⟩ := h
      obtain ⟨a, b, r, rfl, s1, s2, s3⟩ := s
      obtain ⟨ws, rfl, h3⟩ := keysD_of h1 s3
      have := keyD_of s1 ek
      subst this
      exact ⟨(kD k', b) :: ws, rfl, by simp only [ShrK]; exact ⟨b, ws, rfl, s2, h3⟩⟩
    · cases h
theorem mergeD_of {K : PySem.W.Frag} {g : G} : ∀ {kvs : List (DKey × D)} {ws : List (Key × V)} {acc : List (DKey × D)} {as : List (Key × V)}, ShrK K g kvs ws → ShrK K g acc as → ShrK K g (mergeD acc kvs) (mergeK as ws)
  | [], ws, acc, as, h, k => by simp only [ShrK] at h; subst h; exact k
  | p :: kvs, ws, acc, as, h, k => by
    simp only [ShrK] at h
    obtain ⟨v, r, rfl, h2, h3⟩ := h
    exact mergeD_of (acc := putD acc p.1 p.2) (as := putK as (kD p.1) v) h3 (shrK_put h2 k)
def isDic0 (c : Option Cell) : Bool := match c with | some (.dic []) => true | _ => false
def dicE (f : DP0) : DE0 := fun r O => (f r (O ++ [.dic []])).bind fun ps O1 => match keysD ps with
  | some kvs => if decide (ps.length ≤ 15) && isDic0 O1[O.length]? then .ok (.ob O.length) (O1.set O.length (.dic (mergeD [] kvs))) else .bad
  | none => .bad
theorem keysD_len : ∀ {ps : List (D × D)} {kvs : List (DKey × D)}, keysD ps = some kvs → kvs.length = ps.length
  | [], kvs, h => by simp [keysD] at h; subst h; rfl
  | (k, v) :: ps, kvs, h => by
    simp only [keysD] at h
    split at h
    · simp only [Option.map_eq_some_iff] at h
      obtain ⟨kvs', h1, rfl⟩ := h
      simp [keysD_len h1]
    · cases h
theorem d_dict {keys : List (Option Expr)} {values : List Expr} {fp : DP0} (h : DPs C X W pos keys values fp) (hall : keys.all (·.isSome) = true := by rfl) (hl : keys.length = values.length := by rfl) (h0 : keys ≠ [] := by exact fun z => nomatch z) (h15 : keys.length ≤ 15 := by decide) :
    DE C X W (.Dict keys values pos) (dicE fp) :=
  let ⟨_, pp, sp⟩ := h.ex
  ⟨_, pe_disp pp hall hl h0 h15, fun g σ H r O R S Q q => fun p hp => by
    have hk : ∀ a o, H a = some o → upd H p (.dK []) a = some o := fun a o e => by rw [upd_ne (ne_of_none e hp)]; exact e
    have e0 := Ext.add R hp hk
    have R1 := R.add (c := .dic []) hp hk ⟨[], upd_same, by simp [ShrK]⟩
    have q1 := Post.shift e0 q
    refine sp.seq R1 (S.mono e0.le) q1 fun ps O1 vps g2 H2 e2 R2 S2 s2 h2 => ?_
    split at h2
    · rename_i kvs ek
      split at h2
      · rename_i hc
        simp only [Bool.and_eq_true, decide_eq_true_eq] at hc
        have hn : g.n < (g.add p).n := Nat.lt_succ_self _
        have hn2 : g.n < g2.n := Nat.lt_of_lt_of_le hn e2.le.n
        have hp2 : g2.θ g.n = p := by rw [e2.le.θ _ hn, G.add_at]
        have hcell : O1[O.length]? = some (.dic []) := by
          have := hc.2
          unfold isDic0 at this
          split at this
          · assumption
          · cases this
        obtain ⟨vs0, hv0, hv1⟩ := R2.cell _ _ hcell
        simp only [ShrK] at hv1
        subst hv1
        rw [← R.n, hp2] at hv0
        obtain ⟨ws, rfl, hw⟩ := keysD_of ek s2
        refine ⟨hv0, ws, rfl, by rw [shrK_len hw, keysD_len ek]; exact hc.1, ?_⟩
        have hset := Ext.set (o := .dK (mergeK [] ws)) R2 hn2
        have rset := R2.set (o := .dK (mergeK [] ws)) (c := .dic (mergeD [] kvs)) hn2 ⟨_, upd_same, mergeD_of hw (by simp [ShrK])⟩
        rw [hp2] at hset rset
        rw [R.n] at rset
        refine h2 _ g2 _ hset rset ?_
        show Shr _ _ (.ob O.length) _
        simp only [Shr]
        rw [← R.n, hp2]
        exact ⟨rfl, hn2⟩
      · exact h2.elim
    · exact h2.elim⟩
/-! ### d.setdefault(k, x) -/
def setdD (d k x : D) (O : Sto) : ER := match dicOf d O, keyD k with
  | some (l, kvs), some k => if kvs.length < sizeLine then (match getK kvs k with | some v => .ok v O | none => .ok x (O.set l (.dic (putD kvs k x)))) else .bad
  | _, _ => .bad
def setdefaultE2 (fo fa fb : DE0) : DE0 := fun r O => (fo r O).bind fun d O1 => if tyDic d O1 then (fa r O1).bind fun k O2 => (fb r O2).bind fun x O3 => setdD d k x O3 else .bad
theorem e_setdefault2 (ho : DE C X W o fo) (ha : DE C X W e fa) (hb : DE C X W f fb) (m : M2 X o "setdefault" apos e f cpos := by exact ⟨rfl, rfl, rfl, rfl⟩) :
    DE C X W (.Call (.Attribute o "setdefault" apos) [e, f] [] cpos) (setdefaultE2 fo fa fb) :=
  let ⟨_, po, so⟩ := ho.ex; let ⟨_, pa, sa⟩ := ha.ex; let ⟨_, pb, sb⟩ := hb.ex
  ⟨_, pe_dsetd po pa pb m, fun g σ H r O R S Q h => so.seq R S h fun d O1 v g1 H1 e1 R1 S1 s1 h1 => by
    split at h1
    · rename_i hy
      unfold tyDic at hy
      cases q : dicOf d O1 with
      | none => rw [q] at hy; cases hy
      | some lk =>
        obtain ⟨l, kvs⟩ := lk
        obtain ⟨rfl, _, _, ws, h2, _⟩ := dicOf_of R1 s1 q
        refine ⟨_, rfl, .inl ⟨ws, .inl h2⟩, sa.seq R1 S1 h1 fun k O2 kv g2 H2 e2 R2 S2 s2 h3 => sb.seq R2 S2 h3 fun x O3 xv g3 H3 e3 R3 S3 s3 h4 => ?_⟩
        have h4 : Post C W σ g3 H3 (setdD d k x O3) Q := h4
        unfold setdD at h4
        split at h4
        · rename_i l' kvs' k' eq1 eq2
          have sd := (s1.mono e2.le).mono e3.le
          obtain ⟨hv, hl', _, ws', h5, h6⟩ := dicOf_of R3 sd eq1
          have hkk := keyD_of s2 eq2
          subst hkk
          obtain ⟨a1, a2⟩ := shrK_get (k := k') h6
          have ha : g1.θ l = g3.θ l' := by injection hv
          split at h4
          · rename_i hz
            refine ⟨ws', kD k', by rw [ha]; exact h5, rfl, by rw [shrK_len h6]; exact hz, fun u hu => ?_, fun hn => ?_⟩
            · split at h4
              · rename_i y z
                obtain ⟨u', b1, b2⟩ := a1 y z
                rw [b1] at hu; cases hu
                exact Post.fin R3 b2 h4
              · rename_i z
                rw [a2 z] at hu; cases hu
            · split at h4
              · rename_i y z
                obtain ⟨u', b1, b2⟩ := a1 y z
                rw [b1] at hn; cases hn
              · rw [ha]
                exact h4 xv g3 _ (Ext.set R3 hl') (R3.set hl' ⟨_, upd_same, shrK_put s3 h6⟩) s3
          · exact h4.elim
        · exact h4.elim
    · exact h1.elim⟩
/-! ### list(d.items()) -/
def keyB : DKey → D
  | .inl i => .int i
  | .inr x => .str x
def itemsL (kvs : List (DKey × D)) : List D := kvs.map fun p => .tup [keyB p.1, p.2]
def listItemsE (fo : DE0) : DE0 := fun r O => (fo r O).bind fun d O1 => match dicOf d O1 with | some (_, kvs) => .ok (.lst (itemsL kvs)) O1 | none => .bad
theorem e_listItems (hc : X.calm = true) (ho : DE C X W o fo) (hg : Gl X "list") (hm : X.mg "list" = none) (hbase : attributeBase o "items" X.env (eval o X.env) = eval o X.env := by rfl) (hline : (apos.endLine == cpos.line) = true := by rfl)
    (hs : starEach [.Call (.Attribute o "items" apos) [] [] cpos] X.env = (false, eval (.Call (.Attribute o "items" apos) [] [] cpos) X.env) :: starEach [] X.env := by rfl) :
    DE C X W (.Call (.Name "list" p) [.Call (.Attribute o "items" apos) [] [] cpos] [] pos) (listItemsE fo) :=
  let ⟨_, po, so⟩ := ho.ex
  ⟨_, LiI.pe_listItems hc po hg hm (by decide +kernel) hbase hline hs, fun g σ H r O R S Q h => so.seq R S h fun d O1 v g1 H1 e1 R1 S1 s1 h1 => by
    have h1 : Post C W σ g1 H1 (match dicOf d O1 with | some (_, kvs) => Res.ok (D.lst (itemsL kvs)) O1 | none => Res.bad) Q := h1
    split at h1
    · rename_i l kvs eq
      obtain ⟨rfl, hl, _, ws, h2, h3⟩ := dicOf_of R1 s1 eq
      refine ⟨_, ws, rfl, h2, fun H' p ts keep hp hts hnot hl1 hpair => ?_⟩
      let g' : G := { g1 with F := fun a => if a = p ∨ a ∈ ts then H' a else g1.F a }
      have hF : ∀ a o, g1.F a = some o → g'.F a = some o := fun a o e => by
        have ha := R1.F a o e
        have : ¬ (a = p ∨ a ∈ ts) := by
          rintro (z | z)
          · rw [z, hp] at ha; cases ha
          · rw [hts a z] at ha; cases ha
        show (if a = p ∨ a ∈ ts then H' a else g1.F a) = some o
        rw [if_neg this]; exact e
      have le : GLe g1 g' := ⟨hF, fun _ _ => rfl, Nat.le_refl _⟩
      have ext : Ext g1 H1 g' H' := ⟨le, fun a o e _ => keep a o e, fun k a b => absurd b (Nat.not_lt.mpr a), fun k hk => by
        cases z : H1 (g1.θ k) with
        | none => exact absurd z (R1.trk hk)
        | some u => rw [keep _ _ z]; exact (fun y => (nomatch y)), fun a o e => by
        have e' : (if a = p ∨ a ∈ ts then H' a else g1.F a) = some o := e
        split at e'
        · rename_i z
          rcases z with z | z
          · exact .inr (z ▸ hp)
          · exact .inr (hts a z)
        · exact .inl e'⟩
      have rep : RepO C g' H' O1 := by
        refine ⟨R1.n, fun a o e => ?_, fun k c e => ?_, fun k hk => ?_, R1.inj⟩
        · have e' : (if a = p ∨ a ∈ ts then H' a else g1.F a) = some o := e
          split at e'
          · exact e'
          · exact keep a o (R1.F a o e')
        · have c1 := (R1.cell k c e).mono le
          obtain ⟨o, ho, _⟩ := (R1.cell k c e).some'
          exact c1.heap (by rw [ho, keep _ _ ho])
        · have hk' : k < g1.n := hk
          show (if g1.θ k = p ∨ g1.θ k ∈ ts then H' (g1.θ k) else g1.F (g1.θ k)) = none
          have : ¬ (g1.θ k = p ∨ g1.θ k ∈ ts) := by
            rintro (z | z)
            · exact R1.trk hk' (z ▸ hp)
            · exact R1.trk hk' (hts _ z)
          rw [if_neg this]; exact R1.fresh k hk'
      refine h1 _ g' H' ext rep ?_
      show Shr _ _ (.lst (itemsL kvs)) _
      simp only [Shr]
      refine ⟨p, ts.map V.ref, rfl, by show (if p = p ∨ p ∈ ts then H' p else g1.F p) = _; rw [if_pos (.inl rfl)]; exact hl1, ?_⟩
      have gen : ∀ (kvs : List (DKey × D)) (ws : List (Key × V)) (us : List Addr), (∀ t ∈ us, t ∈ ts) → ShrK C.K g1 kvs ws → Paired (fun (t : Addr) (q : Key × V) => H' t = some (.tup [kV q.1, q.2])) us ws → ShrL C.K g' (itemsL kvs) (us.map V.ref) := by
        intro kvs
        induction kvs with
        | nil =>
          intro ws us _ hk hpp
          simp only [ShrK] at hk
          subst hk
          cases hpp
          simp [itemsL, ShrL]
        | cons q kvs ih =>
          intro ws us hus hk hpp
          simp only [ShrK] at hk
          obtain ⟨v, r, rfl, s2, s3⟩ := hk
          cases hpp with
          | cons ht hr =>
            rename_i t us'
            simp only [itemsL, List.map_cons, ShrL]
            refine ⟨_, _, rfl, ?_, ih r us' (fun z hz => hus z (by simp [hz])) s3 hr⟩
            simp only [Shr]
            refine ⟨t, [kV (kD q.1), v], rfl, .inl (.inl ?_), ?_⟩
            · show (if t = p ∨ t ∈ ts then H' t else g1.F t) = _
              rw [if_pos (.inr (hus t (by simp)))]; exact ht
            · simp only [ShrL]
              refine ⟨_, _, rfl, ?_, _, _, rfl, Shr.mono le _ _ s2, rfl⟩
              cases q.1 with
              | inl i => rfl
              | inr x => rfl
      exact gen kvs ws ts (fun _ h => h) h3 hpair
    · exact h1.elim⟩
end
end Dn
set_option linter.all false
namespace Dn
open PySem
/-! ### evaluating -/
theorem bind_ok {α γ : Type} (a : α) (O : Sto) (k : α → Sto → Res γ) : (Res.ok a O).bind k = k a O := rfl
theorem bindS_ok {α : Type} (a : α) (O : Sto) (r : Rho) (k : α → Sto → SR) : (Res.ok a O).bindS r k = k a O := rfl
theorem bind_nx (r : Rho) (O : Sto) (k : Rho → Sto → SR) : (SR.nx r O).bind k = k r O := rfl
theorem bind_ret (d : D) (O : Sto) (k : Rho → Sto → SR) : (SR.ret d O).bind k = .ret d O := rfl
theorem bind_exc (e : Er) (r : Rho) (O : Sto) (k : Rho → Sto → SR) : (SR.exc e r O).bind k = .exc e r O := rfl
theorem bind_ct (r : Rho) (O : Sto) (k : Rho → Sto → SR) : (SR.ct r O).bind k = .ct r O := rfl
theorem bind_bk (r : Rho) (O : Sto) (k : Rho → Sto → SR) : (SR.bk r O).bind k = .bk r O := rfl
/-- the words that reckon -/
def lawD (c s m : Int) : Int := (((c + 104729 * s) % 4294967291) * ((c + 104729 * s) % 4294967291) % 4294967279 * 48271 % 4294967291) / 64 % m
/-- which class has which field -/
def att (c f : Nat) : Bool := match c with
  | 0 => ([0, 1, 2] : List Nat).contains f
  | 1 => ([0, 3, 4, 5] : List Nat).contains f
  | 2 => ([6, 7] : List Nat).contains f
  | 3 => ([8, 9, 10, 11] : List Nat).contains f
  | 4 => ([12, 13, 14, 15, 6] : List Nat).contains f
  | 5 => ([16, 17, 18, 0, 19] : List Nat).contains f
  | 6 => ([20, 21] : List Nat).contains f
  | _ => false
end Dn
set_option linter.all false
set_option maxRecDepth 100000
namespace Dn.Lib
open Dn PySem
def c_DAY : D := .int 86400
def c_DEEP_MOST_gatetext : D := .int 30
def c_DEEP_MOST_names : D := .int 6
def c_FIELDS : D := .tup [(.str [109, 111, 109, 101, 110, 116]), (.str [108, 101, 118, 101, 108]), (.str [110, 97, 109, 101]), (.str [119, 111, 114, 100, 115])]
def c_FIGURES_MOST : D := .int 9
def c_LEVEL_MOST : D := .int 99
def c_MARKS : D := .str [60, 62, 61]
def c_NAME : D := .str [108, 111, 103]
def c_PART_MOST : D := .int 8
def c_SIGNS_gatetext : D := .str [97, 98, 99, 100, 101, 102, 103, 104, 105, 106, 107, 108, 109, 110, 111, 112, 113, 114, 115, 116, 117, 118, 119, 120, 121, 122, 48, 49, 50, 51, 52, 53, 54, 55, 56, 57, 95, 46, 42]
def c_SIGNS_names : D := .str [97, 98, 99, 100, 101, 102, 103, 104, 105, 106, 107, 108, 109, 110, 111, 112, 113, 114, 115, 116, 117, 118, 119, 120, 121, 122, 48, 49, 50, 51, 52, 53, 54, 55, 56, 57, 95]
def c_TEXTS_MOST : D := .int 1000
def c_TOP_LEVEL : D := .int 30
def c_WIDE_MOST : D := .int 40
def c_WORDS : D := .tup [(.str [97, 108, 108]), (.str [100, 101, 98, 117, 103]), (.str [105, 110, 102, 111]), (.str [119, 97, 114, 110]), (.str [101, 114, 114, 111, 114]), (.str [102, 97, 116, 97, 108])]
def c_WORDS_MOST : D := .int 80
def B_Disk_init : DS0 :=
  (consS (fldS att 6 (varE 0) dic0E)
    (fldS att 7 (varE 0) (callE (listF true) (consA (varE 1) nilA))))
def fn_Disk_init : Fn := runFn 2 B_Disk_init
def B_Disk_need : DS0 :=
  (ifS (cmpT (inB true) (varE 1) (fldE att 6 (varE 0)))
    (raiseS 7)
    nilS)
def fn_Disk_need : Fn := runFn 2 B_Disk_need
def B_Disk_step : DS0 :=
  (ifS (truT (fldE att 7 (varE 0)))
    (consS (ifS (cmpT eqD (op2 ixD (fldE att 7 (varE 0)) (constE (.int 0))) (constE (.int 0)))
    (consS (fldS att 7 (varE 0) (slE true (fldE att 7 (varE 0)) (someP (constE (.int 1))) noP))
    (raiseS 8))
    nilS)
    (asgS (subG (fldE att 7 (varE 0)) (constE (.int 0))) (op2 subD (op2 ixD (fldE att 7 (varE 0)) (constE (.int 0))) (constE (.int 1)))))
    nilS)
def fn_Disk_step : Fn := runFn 1 B_Disk_step
def B_Disk_cut : DS0 :=
  (consS (exprS (methE 2 2 fn_Disk_need (varE 0) (consA (varE 1) nilA)))
    (consS (exprS (methE 2 1 fn_Disk_step (varE 0) nilA))
    (asgS (subG (fldE att 6 (varE 0)) (varE 1)) (slE false (op2 ixD (fldE att 6 (varE 0)) (varE 1)) noP (someP (varE 2))))))
def fn_Disk_cut : Fn := runFn 3 B_Disk_cut
def B_Disk_drop : DS0 :=
  (consS (exprS (methE 2 2 fn_Disk_need (varE 0) (consA (varE 1) nilA)))
    (consS (exprS (methE 2 1 fn_Disk_step (varE 0) nilA))
    (exprS (popE (fldE att 6 (varE 0)) (varE 1)))))
def fn_Disk_drop : Fn := runFn 2 B_Disk_drop
def B_Disk_files : DS0 :=
  (retS (callE tupleF (consA (callE (sortedF false) (consA (fldE att 6 (varE 0)) nilA)) nilA)))
def fn_Disk_files : Fn := runFn 1 B_Disk_files
def Q_Disk_put_behind_1 : DS0 :=
  (consS (exprS (methE 2 1 fn_Disk_step (varE 0) nilA))
    (asgS (subG (fldE att 6 (varE 0)) (varE 1)) (op2 (addD false) (getE2 (fldE att 6 (varE 0)) (varE 1) (constE (.str []))) (varE 3))))
def B_Disk_put_behind : DS0 :=
  (forS (seqI (varE 2)) (nameG 3)
    Q_Disk_put_behind_1)
def fn_Disk_put_behind : Fn := runFn 4 B_Disk_put_behind
def B_Disk_rename : DS0 :=
  (consS (exprS (methE 2 2 fn_Disk_need (varE 0) (consA (varE 1) nilA)))
    (consS (exprS (methE 2 1 fn_Disk_step (varE 0) nilA))
    (consS (setS 3 (popE (fldE att 6 (varE 0)) (varE 1)))
    (asgS (subG (fldE att 6 (varE 0)) (varE 2)) (varE 3)))))
def fn_Disk_rename : Fn := runFn 4 B_Disk_rename
def B_Disk_text : DS0 :=
  (consS (exprS (methE 2 2 fn_Disk_need (varE 0) (consA (varE 1) nilA)))
    (retS (op2 ixD (fldE att 6 (varE 0)) (varE 1))))
def fn_Disk_text : Fn := runFn 2 B_Disk_text
def B_Hall_init : DS0 :=
  (consS (fldS att 16 (varE 0) (dicE (consP (constE (.str [])) (constE c_TOP_LEVEL) nilP)))
    (consS (fldS att 17 (varE 0) dic0E)
    (consS (fldS att 18 (varE 0) dic0E)
    (consS (fldS att 0 (varE 0) (constE (.int 0)))
    (fldS att 19 (varE 0) (constE (.int 0)))))))
def fn_Hall_init : Fn := runFn 1 B_Hall_init
def B_Writer_init : DS0 :=
  (consS (fldS att 12 (varE 0) (varE 1))
    (consS (fldS att 13 (varE 0) (varE 2))
    (consS (fldS att 14 (varE 0) (varE 3))
    (consS (fldS att 15 (varE 0) (varE 4))
    (fldS att 6 (varE 0) (lstE true nilA))))))
def fn_Writer_init : Fn := runFn 5 B_Writer_init
def Q_read_field_1 : DS0 :=
  (consS (asgS (tupG 3 (consG (nameG 2) (consG (nameG 3) (consG (nameG 4) nilG)))) (bmE tyStr partition1F (varE 0) (consA (varE 1) nilA)))
    (ifS (andT (cmpT neD (varE 3) (constE (.str []))) (cmpT (inB false) (varE 2) (constE c_FIELDS)))
    (consS (setS 5 (lcE false (callI range2F (consA (constE (.int 1)) (consA (op2 (addD false) (constE c_WIDE_MOST) (constE (.int 1))) nilA))) (nameG 6) (cmpT eqD (callE strF (consA (varE 6) nilA)) (varE 4)) (varE 6) [6]))
    (ifS (truT (varE 5))
    (retS (tupE (consA (constE (.str [102, 105, 101, 108, 100])) (consA (varE 2) (consA (varE 1) (consA (op2 ixD (varE 5) (constE (.int 0))) nilA))))))
    nilS))
    nilS))
def B_read_field : DS0 :=
  (consS (forS (seqI (constE c_MARKS)) (nameG 1)
    Q_read_field_1)
    (consS (ifS (cmpT (inB false) (varE 0) (constE c_FIELDS))
    (retS (tupE (consA (constE (.str [102, 105, 101, 108, 100])) (consA (varE 0) (consA (constE (.str [])) (consA (constE (.int 0)) nilA))))))
    nilS)
    (retS (constE .non))))
def fn_read_field : Fn := runFn 7 B_read_field
def B_with_text : DS0 :=
  (consS (ifS (andT (truT (varE 0)) (cmpT eqD (op2 ixD (op2 ixD (varE 0) (op1 negD (constE (.int 1)))) (constE (.int 0))) (constE (.str [116, 101, 120, 116]))))
    (retS (op2 (addD false) (slE false (varE 0) noP (someP (op1 negD (constE (.int 1))))) (tupE (consA (tupE (consA (constE (.str [116, 101, 120, 116])) (consA (op2 (addD false) (op2 ixD (op2 ixD (varE 0) (op1 negD (constE (.int 1)))) (constE (.int 1))) (varE 1)) nilA))) nilA))))
    nilS)
    (retS (op2 (addD false) (varE 0) (tupE (consA (tupE (consA (constE (.str [116, 101, 120, 116])) (consA (varE 1) nilA))) nilA)))))
def fn_with_text : Fn := runFn 2 B_with_text
def Q_read_form_1 : DS0 :=
  (ifS (cmpT (inB false) (slE false (varE 0) (someP (varE 2)) (someP (op2 (addD false) (varE 2) (constE (.int 2))))) (tupE (consA (constE (.str [123, 123])) (consA (constE (.str [125, 125])) nilA))))
    (consS (setS 1 (fnE 2 (closeFn fn_with_text) (consA (varE 1) (consA (op2 ixD (varE 0) (varE 2)) nilA))))
    (setS 2 (op2 (addD false) (varE 2) (constE (.int 2)))))
    (ifS (cmpT eqD (op2 ixD (varE 0) (varE 2)) (constE (.str [123])))
    (consS (setS 3 (bmE tyStr find2F (varE 0) (consA (constE (.str [125])) (consA (varE 2) nilA))))
    (consS (setS 4 (constE .non))
    (consS (ifS (cmpT gtD (varE 3) (constE (.int 0)))
    (setS 4 (fnE 1 (closeFn fn_read_field) (consA (slE false (varE 0) (someP (op2 (addD false) (varE 2) (constE (.int 1)))) (someP (varE 3))) nilA)))
    nilS)
    (consS (ifS (cmpT isNoneD (varE 4) (constE .non))
    badS
    nilS)
    (consS (setS 1 (op2 (addD false) (varE 1) (tupE (consA (varE 4) nilA))))
    (setS 2 (op2 (addD false) (varE 3) (constE (.int 1)))))))))
    (consS (ifS (cmpT eqD (op2 ixD (varE 0) (varE 2)) (constE (.str [125])))
    badS
    nilS)
    (consS (setS 1 (fnE 2 (closeFn fn_with_text) (consA (varE 1) (consA (op2 ixD (varE 0) (varE 2)) nilA))))
    (setS 2 (op2 (addD false) (varE 2) (constE (.int 1))))))))
def B_read_form : DS0 :=
  (consS (setS 1 (tupE nilA))
    (consS (setS 2 (constE (.int 0)))
    (consS (whileS 100000 (cmpT ltD (varE 2) (callE lenF (consA (varE 0) nilA)))
    Q_read_form_1)
    (retS (varE 1)))))
def fn_read_form : Fn := runFn 5 B_read_form
def Q_tokens_1 : DS0 :=
  (setS 2 (op2 (addD false) (varE 2) (constE (.int 1))))
def Q_tokens_2 : DS0 :=
  (consS (setS 3 (varE 2))
    (consS (setS 2 (op2 (addD false) (varE 2) (constE (.int 1))))
    (consS (ifS (cmpT eqD (op2 ixD (varE 0) (varE 3)) (constE (.str [39])))
    (consS (setS 2 (op2 (addD false) (bmE tyStr find2F (varE 0) (consA (constE (.str [39])) (consA (varE 2) nilA))) (constE (.int 1))))
    (ifS (cmpT eqD (varE 2) (constE (.int 0)))
    badS
    nilS))
    (ifS (cmpT (inB false) (op2 ixD (varE 0) (varE 3)) (constE c_SIGNS_gatetext))
    (whileS 100000 (andT (cmpT ltD (varE 2) (callE lenF (consA (varE 0) nilA))) (cmpT (inB false) (op2 ixD (varE 0) (varE 2)) (constE c_SIGNS_gatetext)))
    Q_tokens_1)
    (ifS (cmpT (inB true) (op2 ixD (varE 0) (varE 3)) (constE (.str [40, 41, 32])))
    badS
    nilS)))
    (ifS (cmpT neD (op2 ixD (varE 0) (varE 3)) (constE (.str [32])))
    (exprS (bmE tyLst appendF (varE 1) (consA (tupE (consA (slE false (varE 0) (someP (varE 3)) (someP (varE 2))) (consA (varE 3) nilA))) nilA)))
    nilS))))
def B_tokens : DS0 :=
  (consS (setS 1 (lstE true nilA))
    (consS (setS 2 (constE (.int 0)))
    (consS (whileS 100000 (cmpT ltD (varE 2) (callE lenF (consA (varE 0) nilA)))
    Q_tokens_2)
    (retS (op2 (addD false) (varE 1) (lstE false (consA (tupE (consA (constE (.str [])) (consA (callE lenF (consA (varE 0) nilA)) nilA))) nilA)))))))
def fn_tokens : Fn := runFn 4 B_tokens
def B_Reader_init : DS0 :=
  (consS (fldS att 20 (varE 0) (fnE 1 (closeFn fn_tokens) (consA (varE 1) nilA)))
    (fldS att 21 (varE 0) (constE (.int 0))))
def fn_Reader_init : Fn := runFn 2 B_Reader_init
def B_Reader_fail : DS0 :=
  badS
def fn_Reader_fail : Fn := runFn 1 B_Reader_fail
def B_Reader_next_word : DS0 :=
  (retS (op2 ixD (op2 ixD (fldE att 20 (varE 0)) (constE (.int 0))) (constE (.int 0))))
def fn_Reader_next_word : Fn := runFn 1 B_Reader_next_word
def B_Reader_pass_word : DS0 :=
  (consS (setS 1 (op2 ixD (op2 ixD (fldE att 20 (varE 0)) (constE (.int 0))) (constE (.int 0))))
    (consS (fldS att 20 (varE 0) (slE false (fldE att 20 (varE 0)) (someP (constE (.int 1))) noP))
    (retS (varE 1))))
def fn_Reader_pass_word : Fn := runFn 2 B_Reader_pass_word
def B_is_name : DS0 :=
  (consS (ifS (notT (truT (op1 (isiD 3) (varE 0))))
    (retS (constE (.bl false)))
    nilS)
    (consS (ifS (cmpT eqD (varE 0) (constE (.str [])))
    (retS (constE (.bl true)))
    nilS)
    (consS (setS 1 (bmE tyStr (splitF false) (varE 0) (consA (constE (.str [46])) nilA)))
    (consS (setS 2 (lcE false (seqI (varE 1)) (nameG 4) yesT (andE (chainE leD leD (constE (.int 1)) (callE lenF (consA (varE 4) nilA)) (constE c_PART_MOST)) (callE allF (consA (lcE false (seqI (varE 4)) (nameG 3) yesT (op2 (inB false) (varE 3) (constE c_SIGNS_names)) [3]) nilA))) [4]))
    (retS (andE (op2 leD (callE lenF (consA (varE 1) nilA)) (constE c_DEEP_MOST_names)) (callE allF (consA (varE 2) nilA))))))))
def fn_is_name : Fn := runFn 5 B_is_name
def B_Reader_asked : DS0 :=
  (consS (setS 2 (methE 6 1 fn_Reader_next_word (varE 0) nilA))
    (consS (ifS (cmpT eqD (varE 1) (constE (.str [108, 101, 118, 101, 108])))
    (consS (setS 3 (lcE false (seqI (varE 2)) (nameG 4) (cmpT (inB false) (varE 4) (constE (.str [48, 49, 50, 51, 52, 53, 54, 55, 56, 57]))) (varE 4) [4]))
    (consS (ifS (orT (notT (chainT leD leD (constE (.int 1)) (callE lenF (consA (varE 2) nilA)) (constE (.int 2)))) (orT (cmpT ltD (callE lenF (consA (varE 3) nilA)) (callE lenF (consA (varE 2) nilA))) (andT (cmpT eqD (op2 ixD (varE 2) (constE (.int 0))) (constE (.str [48]))) (cmpT gtD (callE lenF (consA (varE 2) nilA)) (constE (.int 1))))))
    (exprS (methE 6 1 fn_Reader_fail (varE 0) nilA))
    nilS)
    (retS (callE intF (consA (methE 6 1 fn_Reader_pass_word (varE 0) nilA) nilA)))))
    nilS)
    (consS (ifS (cmpT eqD (varE 1) (constE (.str [104, 97, 115])))
    (consS (ifS (cmpT neD (slE false (varE 2) noP (someP (constE (.int 1)))) (constE (.str [39])))
    (exprS (methE 6 1 fn_Reader_fail (varE 0) nilA))
    nilS)
    (retS (slE false (methE 6 1 fn_Reader_pass_word (varE 0) nilA) (someP (constE (.int 1))) (someP (op1 negD (constE (.int 1)))))))
    nilS)
    (consS (ifS (cmpT eqD (varE 2) (constE (.str [42])))
    (consS (exprS (methE 6 1 fn_Reader_pass_word (varE 0) nilA))
    (retS (constE (.str []))))
    nilS)
    (consS (ifS (orT (cmpT eqD (varE 2) (constE (.str []))) (notT (truT (fnE 1 (closeFn fn_is_name) (consA (varE 2) nilA)))))
    (exprS (methE 6 1 fn_Reader_fail (varE 0) nilA))
    nilS)
    (retS (methE 6 1 fn_Reader_pass_word (varE 0) nilA)))))))
def fn_Reader_asked : Fn := runFn 5 B_Reader_asked
-- a group that calls itself: Reader.any_of Reader.all_of Reader.one
def B_Reader_any_of (r_Reader_any_of : Fn) (r_Reader_all_of : Fn) (r_Reader_one : Fn) : DS0 :=
  (consS (setS 1 (methE 6 1 r_Reader_all_of (varE 0) nilA))
    (consS (whileS 100000 (cmpT eqD (methE 6 1 fn_Reader_next_word (varE 0) nilA) (constE (.str [111, 114])))
    (consS (exprS (methE 6 1 fn_Reader_pass_word (varE 0) nilA))
    (setS 1 (tupE (consA (constE (.str [111, 114])) (consA (varE 1) (consA (methE 6 1 r_Reader_all_of (varE 0) nilA) nilA)))))))
    (retS (varE 1))))
def B_Reader_all_of (r_Reader_any_of : Fn) (r_Reader_all_of : Fn) (r_Reader_one : Fn) : DS0 :=
  (consS (setS 1 (methE 6 1 r_Reader_one (varE 0) nilA))
    (consS (whileS 100000 (cmpT eqD (methE 6 1 fn_Reader_next_word (varE 0) nilA) (constE (.str [97, 110, 100])))
    (consS (exprS (methE 6 1 fn_Reader_pass_word (varE 0) nilA))
    (setS 1 (tupE (consA (constE (.str [97, 110, 100])) (consA (varE 1) (consA (methE 6 1 r_Reader_one (varE 0) nilA) nilA)))))))
    (retS (varE 1))))
def B_Reader_one (r_Reader_any_of : Fn) (r_Reader_all_of : Fn) (r_Reader_one : Fn) : DS0 :=
  (consS (setS 1 (methE 6 1 fn_Reader_next_word (varE 0) nilA))
    (consS (ifS (cmpT (inB false) (varE 1) (tupE (consA (constE (.str [121, 101, 115])) (consA (constE (.str [110, 111])) nilA))))
    (retS (tupE (consA (methE 6 1 fn_Reader_pass_word (varE 0) nilA) nilA)))
    nilS)
    (consS (ifS (cmpT (inB false) (varE 1) (tupE (consA (constE (.str [108, 101, 118, 101, 108])) (consA (constE (.str [117, 110, 100, 101, 114])) (consA (constE (.str [104, 97, 115])) nilA)))))
    (consS (exprS (methE 6 1 fn_Reader_pass_word (varE 0) nilA))
    (retS (tupE (consA (varE 1) (consA (methE 6 2 fn_Reader_asked (varE 0) (consA (varE 1) nilA)) nilA)))))
    nilS)
    (consS (ifS (cmpT (inB true) (varE 1) (tupE (consA (constE (.str [110, 111, 116])) (consA (constE (.str [40])) nilA))))
    (exprS (methE 6 1 fn_Reader_fail (varE 0) nilA))
    nilS)
    (consS (fldS att 21 (varE 0) (op2 (addD false) (fldE att 21 (varE 0)) (constE (.int 1))))
    (consS (ifS (cmpT gtD (fldE att 21 (varE 0)) (constE c_DEEP_MOST_gatetext))
    (exprS (methE 6 1 fn_Reader_fail (varE 0) nilA))
    nilS)
    (consS (exprS (methE 6 1 fn_Reader_pass_word (varE 0) nilA))
    (consS (ifS (cmpT eqD (varE 1) (constE (.str [110, 111, 116])))
    (setS 2 (tupE (consA (constE (.str [110, 111, 116])) (consA (methE 6 1 r_Reader_one (varE 0) nilA) nilA))))
    (consS (setS 2 (methE 6 1 r_Reader_any_of (varE 0) nilA))
    (consS (ifS (cmpT neD (methE 6 1 fn_Reader_next_word (varE 0) nilA) (constE (.str [41])))
    (exprS (methE 6 1 fn_Reader_fail (varE 0) nilA))
    nilS)
    (exprS (methE 6 1 fn_Reader_pass_word (varE 0) nilA)))))
    (consS (fldS att 21 (varE 0) (op2 subD (fldE att 21 (varE 0)) (constE (.int 1))))
    (retS (varE 2)))))))))))
def grp_Reader_any_of : Nat → Fn × Fn × Fn
  | 0 => (fun _ _ => .bad, fun _ _ => .bad, fun _ _ => .bad)
  | n + 1 => let g := grp_Reader_any_of n; (runFn 2 (B_Reader_any_of g.1 g.2.1 g.2.2), runFn 2 (B_Reader_all_of g.1 g.2.1 g.2.2), runFn 3 (B_Reader_one g.1 g.2.1 g.2.2))
def fn_Reader_any_of (n : Nat) : Fn := (grp_Reader_any_of n).1
def fn_Reader_all_of (n : Nat) : Fn := (grp_Reader_any_of n).2.1
def fn_Reader_one (n : Nat) : Fn := (grp_Reader_any_of n).2.2
def B_read_gate : DS0 :=
  (consS (setS 1 (makeE 6 2 fn_Reader_init (consA (varE 0) nilA)))
    (consS (setS 2 (methE 6 1 (fn_Reader_any_of 100) (varE 1) nilA))
    (consS (ifS (cmpT neD (methE 6 1 fn_Reader_next_word (varE 1) nilA) (constE (.str [])))
    (exprS (methE 6 1 fn_Reader_fail (varE 1) nilA))
    nilS)
    (retS (varE 2)))))
def fn_read_gate : Fn := runFn 3 B_read_gate
def B_Hall_add_writer : DS0 :=
  (consS (setS 5 (fnE 1 (closeFn fn_read_gate) (consA (varE 3) nilA)))
    (consS (exprS (fnE 1 (closeFn fn_read_form) (consA (varE 4) nilA)))
    (consS (fldS att 0 (varE 0) (op2 (addD false) (fldE att 0 (varE 0)) (constE (.int 1))))
    (consS (asgS (subG (fldE att 18 (varE 0)) (fldE att 0 (varE 0))) (makeE 4 5 fn_Writer_init (consA (varE 1) (consA (varE 2) (consA (varE 5) (consA (varE 4) nilA))))))
    (retS (fldE att 0 (varE 0)))))))
def fn_Hall_add_writer : Fn := runFn 6 B_Hall_add_writer
def B_Hall_close : DS0 :=
  (asgS (subG (fldE att 17 (varE 0)) (varE 1)) (varE 2))
def fn_Hall_close : Fn := runFn 3 B_Hall_close
def B_above : DS0 :=
  (consS (ifS (cmpT eqD (varE 0) (constE (.str [])))
    (retS (tupE nilA))
    nilS)
    (consS (setS 1 (bmE tyStr (splitF false) (varE 0) (consA (constE (.str [46])) nilA)))
    (retS (callE tupleF (consA (lcE false (callI range3F (consA (op2 subD (callE lenF (consA (varE 1) nilA)) (constE (.int 1))) (consA (op1 negD (constE (.int 1))) (consA (op1 negD (constE (.int 1))) nilA)))) (nameG 2) yesT (bmE tyStr joinF (constE (.str [46])) (consA (slE false (varE 1) noP (someP (varE 2))) nilA)) [2]) nilA)))))
def fn_above : Fn := runFn 3 B_above
def Q_Hall_level_of_1 : DS0 :=
  (ifS (cmpT (inB false) (varE 2) (fldE att 16 (varE 0)))
    (retS (op2 ixD (fldE att 16 (varE 0)) (varE 2)))
    nilS)
def B_Hall_level_of : DS0 :=
  (consS (forS (seqI (op2 (addD false) (tupE (consA (varE 1) nilA)) (fnE 1 (closeFn fn_above) (consA (varE 1) nilA)))) (nameG 2)
    Q_Hall_level_of_1)
    (retS (constE c_TOP_LEVEL)))
def fn_Hall_level_of : Fn := runFn 3 B_Hall_level_of
def B_Hall_is_told : DS0 :=
  (retS (andE (op2 geD (varE 2) (fldE att 19 (varE 0))) (op2 geD (varE 2) (methE 5 2 fn_Hall_level_of (varE 0) (consA (varE 1) nilA)))))
def fn_Hall_is_told : Fn := runFn 3 B_Hall_is_told
def B_Hall_quiet : DS0 :=
  (fldS att 19 (varE 0) (varE 1))
def fn_Hall_quiet : Fn := runFn 2 B_Hall_quiet
def B_Hall_writer_at : DS0 :=
  (consS (ifS (cmpT (inB true) (varE 1) (fldE att 18 (varE 0)))
    (raiseS 5)
    nilS)
    (retS (op2 ixD (fldE att 18 (varE 0)) (varE 1))))
def fn_Hall_writer_at : Fn := runFn 2 B_Hall_writer_at
def B_Hall_rows : DS0 :=
  (retS (callE tupleF (consA (fldE att 6 (methE 5 2 fn_Hall_writer_at (varE 0) (consA (varE 1) nilA))) nilA)))
def fn_Hall_rows : Fn := runFn 2 B_Hall_rows
def B_Hall_set_level : DS0 :=
  (asgS (subG (fldE att 16 (varE 0)) (varE 1)) (varE 2))
def fn_Hall_set_level : Fn := runFn 3 B_Hall_set_level
def B_Hall_take_away : DS0 :=
  (consS (exprS (methE 5 2 fn_Hall_writer_at (varE 0) (consA (varE 1) nilA)))
    (exprS (popE (fldE att 18 (varE 0)) (varE 1))))
def fn_Hall_take_away : Fn := runFn 2 B_Hall_take_away
def Q_Hall_ways_1 : DS0 :=
  (consS (setS 2 (op2 (addD false) (varE 2) (tupE (consA (varE 3) nilA))))
    (ifS (truT (getE2 (fldE att 17 (varE 0)) (varE 3) (constE (.bl false))))
    (retS (varE 2))
    nilS))
def B_Hall_ways : DS0 :=
  (consS (setS 2 (tupE nilA))
    (consS (forS (seqI (op2 (addD false) (tupE (consA (varE 1) nilA)) (fnE 1 (closeFn fn_above) (consA (varE 1) nilA)))) (nameG 3)
    Q_Hall_ways_1)
    (retS (varE 2))))
def fn_Hall_ways : Fn := runFn 4 B_Hall_ways
def B_level_word : DS0 :=
  (consS (setS 1 (callE min2F (consA (op2 fdivD (varE 0) (constE (.int 10))) (consA (op2 subD (callE lenF (consA (constE c_WORDS) nilA)) (constE (.int 1))) nilA))))
    (consS (setS 2 (op2 subD (varE 0) (op2 (mulD false) (constE (.int 10)) (varE 1))))
    (consS (ifS (cmpT eqD (varE 2) (constE (.int 0)))
    (retS (op2 ixD (constE c_WORDS) (varE 1)))
    nilS)
    (retS (joinE (consJ (fmtE (op2 ixD (constE c_WORDS) (varE 1))) (consJ (constE (.str [43])) (consJ (fmtE (varE 2)) nilJ))))))))
def fn_level_word : Fn := runFn 3 B_level_word
def B_field_text : DS0 :=
  (consS (ifS (cmpT eqD (varE 0) (constE (.str [109, 111, 109, 101, 110, 116])))
    (retS (callE strF (consA (op2 ixD (varE 1) (constE (.int 0))) nilA)))
    nilS)
    (consS (ifS (cmpT eqD (varE 0) (constE (.str [108, 101, 118, 101, 108])))
    (retS (fnE 1 (closeFn fn_level_word) (consA (op2 ixD (varE 1) (constE (.int 1))) nilA)))
    nilS)
    (consS (ifS (cmpT eqD (varE 0) (constE (.str [110, 97, 109, 101])))
    (retS (orE (op2 ixD (varE 1) (constE (.int 2))) (constE (.str [42]))))
    nilS)
    (retS (op2 ixD (varE 1) (constE (.int 3)))))))
def fn_field_text : Fn := runFn 2 B_field_text
def B_laid_part : DS0 :=
  (consS (ifS (cmpT eqD (op2 ixD (varE 0) (constE (.int 0))) (constE (.str [116, 101, 120, 116])))
    (retS (op2 ixD (varE 0) (constE (.int 1))))
    nilS)
    (consS (setS 2 (fnE 2 (closeFn fn_field_text) (consA (op2 ixD (varE 0) (constE (.int 1))) (consA (varE 1) nilA))))
    (consS (ifS (cmpT eqD (op2 ixD (varE 0) (constE (.int 2))) (constE (.str [60])))
    (retS (bmE tyStr ljust1F (varE 2) (consA (op2 ixD (varE 0) (constE (.int 3))) nilA)))
    nilS)
    (consS (ifS (cmpT eqD (op2 ixD (varE 0) (constE (.int 2))) (constE (.str [62])))
    (retS (bmE tyStr rjust1F (varE 2) (consA (op2 ixD (varE 0) (constE (.int 3))) nilA)))
    nilS)
    (consS (ifS (cmpT eqD (op2 ixD (varE 0) (constE (.int 2))) (constE (.str [61])))
    (retS (bmE tyStr ljust1F (slE false (varE 2) noP (someP (op2 ixD (varE 0) (constE (.int 3))))) (consA (op2 ixD (varE 0) (constE (.int 3))) nilA)))
    nilS)
    (retS (varE 2)))))))
def fn_laid_part : Fn := runFn 3 B_laid_part
def B_laid : DS0 :=
  (retS (bmE tyStr joinF (constE (.str [])) (consA (lcE false (seqI (fnE 1 (closeFn fn_read_form) (consA (varE 0) nilA))) (nameG 2) yesT (fnE 2 (closeFn fn_laid_part) (consA (varE 2) (consA (varE 1) nilA))) [2]) nilA)))
def fn_laid : Fn := runFn 3 B_laid
def B_is_under : DS0 :=
  (retS (orE (op2 (inB false) (varE 1) (tupE (consA (constE (.str [])) (consA (varE 0) nilA)))) (bmE tyStr startswithF (varE 0) (consA (op2 (addD false) (varE 1) (constE (.str [46]))) nilA))))
def fn_is_under : Fn := runFn 2 B_is_under
-- a group that calls itself: passes
def B_passes (r_passes : Fn) : DS0 :=
  (consS (setS 2 (op2 ixD (varE 0) (constE (.int 0))))
    (consS (ifS (cmpT (inB false) (varE 2) (tupE (consA (constE (.str [121, 101, 115])) (consA (constE (.str [110, 111])) nilA))))
    (retS (op2 eqD (varE 2) (constE (.str [121, 101, 115]))))
    nilS)
    (consS (ifS (cmpT eqD (varE 2) (constE (.str [108, 101, 118, 101, 108])))
    (retS (op2 geD (op2 ixD (varE 1) (constE (.int 1))) (op2 ixD (varE 0) (constE (.int 1)))))
    nilS)
    (consS (ifS (cmpT eqD (varE 2) (constE (.str [117, 110, 100, 101, 114])))
    (retS (fnE 2 (closeFn fn_is_under) (consA (op2 ixD (varE 1) (constE (.int 2))) (consA (op2 ixD (varE 0) (constE (.int 1))) nilA))))
    nilS)
    (consS (ifS (cmpT eqD (varE 2) (constE (.str [104, 97, 115])))
    (retS (op2 (inB false) (op2 ixD (varE 0) (constE (.int 1))) (op2 ixD (varE 1) (constE (.int 3)))))
    nilS)
    (consS (ifS (cmpT eqD (varE 2) (constE (.str [110, 111, 116])))
    (retS (notE (fnE 2 (closeFn r_passes) (consA (op2 ixD (varE 0) (constE (.int 1))) (consA (varE 1) nilA)))))
    nilS)
    (consS (ifS (cmpT eqD (varE 2) (constE (.str [97, 110, 100])))
    (retS (andE (fnE 2 (closeFn r_passes) (consA (op2 ixD (varE 0) (constE (.int 1))) (consA (varE 1) nilA))) (fnE 2 (closeFn r_passes) (consA (op2 ixD (varE 0) (constE (.int 2))) (consA (varE 1) nilA)))))
    nilS)
    (retS (orE (fnE 2 (closeFn r_passes) (consA (op2 ixD (varE 0) (constE (.int 1))) (consA (varE 1) nilA))) (fnE 2 (closeFn r_passes) (consA (op2 ixD (varE 0) (constE (.int 2))) (consA (varE 1) nilA))))))))))))
def fn_passes : Nat → Fn
  | 0 => fun _ _ => .bad
  | n + 1 => runFn 3 (B_passes (fn_passes n))
def B_Writer_take : DS0 :=
  (consS (ifS (orT (cmpT ltD (op2 ixD (varE 1) (constE (.int 1))) (fldE att 13 (varE 0))) (notT (truT (fnE 2 (closeFn (fn_passes 100)) (consA (fldE att 14 (varE 0)) (consA (varE 1) nilA))))))
    (retS (constE (.bl false)))
    nilS)
    (consS (exprS (bmE tyLst appendF (fldE att 6 (varE 0)) (consA (fnE 2 (closeFn fn_laid) (consA (fldE att 15 (varE 0)) (consA (varE 1) nilA))) nilA)))
    (retS (constE (.bl true)))))
def fn_Writer_take : Fn := runFn 2 B_Writer_take
def Q_Hall_tell_1 : DS0 :=
  (ifS (andT (cmpT eqD (fldE att 12 (varE 5)) (varE 3)) (truT (methE 4 2 fn_Writer_take (varE 5) (consA (varE 1) nilA))))
    (setS 2 (op2 (addD false) (varE 2) (tupE (consA (varE 4) nilA))))
    nilS)
def Q_Hall_tell_2 : DS0 :=
  (forS (seqI (listItemsE (fldE att 18 (varE 0)))) (tupG 2 (consG (nameG 4) (consG (nameG 5) nilG)))
    Q_Hall_tell_1)
def B_Hall_tell : DS0 :=
  (consS (setS 2 (tupE nilA))
    (consS (ifS (truT (methE 5 3 fn_Hall_is_told (varE 0) (consA (op2 ixD (varE 1) (constE (.int 2))) (consA (op2 ixD (varE 1) (constE (.int 1))) nilA))))
    (forS (seqI (methE 5 2 fn_Hall_ways (varE 0) (consA (op2 ixD (varE 1) (constE (.int 2))) nilA))) (nameG 3)
    Q_Hall_tell_2)
    nilS)
    (retS (varE 2))))
def fn_Hall_tell : Fn := runFn 6 B_Hall_tell
def B_Hall_unset_level : DS0 :=
  (ifS (cmpT eqD (varE 1) (constE (.str [])))
    (asgS (subG (fldE att 16 (varE 0)) (varE 1)) (constE c_TOP_LEVEL))
    (ifS (cmpT (inB false) (varE 1) (fldE att 16 (varE 0)))
    (exprS (popE (fldE att 16 (varE 0)) (varE 1)))
    nilS))
def fn_Hall_unset_level : Fn := runFn 2 B_Hall_unset_level
def B_Holder_init : DS0 :=
  (consS (fldS att 0 (varE 0) (varE 1))
    (consS (fldS att 1 (varE 0) (varE 2))
    (fldS att 2 (varE 0) (tupE nilA))))
def fn_Holder_init : Fn := runFn 3 B_Holder_init
def B_Holder_held : DS0 :=
  (retS (fldE att 2 (varE 0)))
def fn_Holder_held : Fn := runFn 1 B_Holder_held
def B_Holder_let_go : DS0 :=
  (consS (setS 1 (fldE att 2 (varE 0)))
    (consS (fldS att 2 (varE 0) (tupE nilA))
    (retS (varE 1))))
def fn_Holder_let_go : Fn := runFn 2 B_Holder_let_go
def B_Holder_put : DS0 :=
  (consS (fldS att 2 (varE 0) (op2 (addD false) (fldE att 2 (varE 0)) (tupE (consA (varE 1) nilA))))
    (consS (ifS (andT (cmpT ltD (op2 ixD (varE 1) (constE (.int 1))) (fldE att 1 (varE 0))) (cmpT ltD (callE lenF (consA (fldE att 2 (varE 0)) nilA)) (fldE att 0 (varE 0))))
    (retS (tupE nilA))
    nilS)
    (retS (methE 0 1 fn_Holder_let_go (varE 0) nilA))))
def fn_Holder_put : Fn := runFn 2 B_Holder_put
def B_Limit_init : DS0 :=
  (consS (fldS att 0 (varE 0) (varE 1))
    (consS (fldS att 3 (varE 0) (varE 2))
    (consS (fldS att 4 (varE 0) dic0E)
    (fldS att 5 (varE 0) (constE (.int 0))))))
def fn_Limit_init : Fn := runFn 3 B_Limit_init
def B_Limit_take : DS0 :=
  (consS (ifS (cmpT ltD (varE 1) (fldE att 5 (varE 0)))
    (raiseS 6)
    nilS)
    (consS (fldS att 5 (varE 0) (varE 1))
    (consS (setS 3 (lcE true (seqI (getE2 (fldE att 4 (varE 0)) (varE 2) (tupE nilA))) (nameG 4) (cmpT gtD (varE 4) (op2 subD (varE 1) (fldE att 3 (varE 0)))) (varE 4) [4]))
    (consS (ifS (cmpT ltD (callE lenF (consA (varE 3) nilA)) (fldE att 0 (varE 0)))
    (consS (exprS (bmE tyLst appendF (varE 3) (consA (varE 1) nilA)))
    (consS (asgS (subG (fldE att 4 (varE 0)) (varE 2)) (callE tupleF (consA (varE 3) nilA)))
    (retS (constE (.bl true)))))
    nilS)
    (retS (constE (.bl false)))))))
def fn_Limit_take : Fn := runFn 5 B_Limit_take
def B_place : DS0 :=
  (consS (ifS (cmpT eqD (varE 0) (constE (.int 0)))
    (retS (constE c_NAME))
    nilS)
    (retS (joinE (consJ (fmtE (constE c_NAME)) (consJ (constE (.str [46])) (consJ (fmtE (varE 0)) nilJ))))))
def fn_place : Fn := runFn 1 B_place
def B_read_figures : DS0 :=
  (consS (ifS (orT (notT (chainT leD leD (constE (.int 1)) (callE lenF (consA (varE 0) nilA)) (constE c_FIGURES_MOST))) (notT (truT (callE allF (consA (lcE false (seqI (varE 0)) (nameG 1) yesT (op2 (inB false) (varE 1) (constE (.str [48, 49, 50, 51, 52, 53, 54, 55, 56, 57]))) [1]) nilA)))))
    (raiseS 2)
    nilS)
    (consS (ifS (andT (cmpT eqD (op2 ixD (varE 0) (constE (.int 0))) (constE (.str [48]))) (cmpT gtD (callE lenF (consA (varE 0) nilA)) (constE (.int 1))))
    (raiseS 2)
    nilS)
    (retS (callE intF (consA (varE 0) nilA)))))
def fn_read_figures : Fn := runFn 2 B_read_figures
def Q_read_level_1 : DS0 :=
  (ifS (cmpT eqD (fnE 1 (closeFn fn_level_word) (consA (varE 1) nilA)) (varE 0))
    (retS (varE 1))
    nilS)
def B_read_level : DS0 :=
  (consS (forS (callI range1F (consA (op2 (addD false) (constE c_LEVEL_MOST) (constE (.int 1))) nilA)) (nameG 1)
    Q_read_level_1)
    (raiseS 1))
def fn_read_level : Fn := runFn 2 B_read_level
def Q_read_row_1 : DS0 :=
  (consS (asgS (tupG 3 (consG (nameG 4) (consG (nameG 5) (consG (nameG 2) nilG)))) (bmE tyStr partition1F (varE 2) (consA (constE (.str [32])) nilA)))
    (consS (ifS (cmpT eqD (varE 5) (constE (.str [])))
    (raiseS 2)
    nilS)
    (exprS (bmE tyLst appendF (varE 1) (consA (varE 4) nilA)))))
def B_read_row : DS0 :=
  (consS (setS 1 (lstE true nilA))
    (consS (setS 2 (varE 0))
    (consS (forS (callI range1F (consA (constE (.int 4)) nilA)) (nameG 3)
    Q_read_row_1)
    (consS (setS 6 (fnE 1 (closeFn fn_read_figures) (consA (op2 ixD (varE 1) (constE (.int 0))) nilA)))
    (consS (setS 7 (fnE 1 (closeFn fn_read_figures) (consA (op2 ixD (varE 1) (constE (.int 1))) nilA)))
    (consS (tryS 1 (setS 8 (fnE 1 (closeFn fn_read_level) (consA (op2 ixD (varE 1) (constE (.int 2))) nilA))) badS)
    (consS (setS 9 (op2 ixD (varE 1) (constE (.int 3))))
    (consS (ifS (cmpT eqD (varE 9) (constE (.str [42])))
    (setS 9 (constE (.str [])))
    (ifS (orT (cmpT eqD (varE 9) (constE (.str []))) (notT (truT (fnE 1 (closeFn fn_is_name) (consA (varE 9) nilA)))))
    (raiseS 2)
    nilS))
    (consS (ifS (orT (cmpT eqD (varE 6) (constE (.int 0))) (cmpT gtD (callE lenF (consA (varE 2) nilA)) (constE c_WORDS_MOST)))
    (raiseS 2)
    nilS)
    (retS (tupE (consA (varE 6) (consA (tupE (consA (varE 7) (consA (varE 8) (consA (varE 9) (consA (varE 2) nilA))))) nilA)))))))))))))
def fn_read_row : Fn := runFn 10 B_read_row
def B_whole_rows : DS0 :=
  (retS (slE false (bmE tyStr (splitF false) (varE 0) (consA (constE (.str [10])) nilA)) noP (someP (op1 negD (constE (.int 1))))))
def fn_whole_rows : Fn := runFn 1 B_whole_rows
def Q_kept_rows_1 : DS0 :=
  (ifS (cmpT (inB false) (fnE 1 (closeFn fn_place) (consA (varE 3) nilA)) (methE 2 1 fn_Disk_files (varE 0) nilA))
    (setS 2 (op2 (addD false) (varE 2) (callE tupleF (consA (lcE false (seqI (fnE 1 (closeFn fn_whole_rows) (consA (methE 2 2 fn_Disk_text (varE 0) (consA (fnE 1 (closeFn fn_place) (consA (varE 3) nilA)) nilA)) nilA))) (nameG 4) yesT (fnE 1 (closeFn fn_read_row) (consA (varE 4) nilA)) [4]) nilA))))
    nilS)
def B_kept_rows : DS0 :=
  (consS (setS 2 (tupE nilA))
    (consS (forS (callI range3F (consA (varE 1) (consA (op1 negD (constE (.int 1))) (consA (op1 negD (constE (.int 1))) nilA)))) (nameG 3)
    Q_kept_rows_1)
    (retS (varE 2))))
def fn_kept_rows : Fn := runFn 5 B_kept_rows
def B_Shelf_there : DS0 :=
  (retS (op2 (inB false) (fnE 1 (closeFn fn_place) (consA (varE 1) nilA)) (methE 2 1 fn_Disk_files (fldE att 8 (varE 0)) nilA)))
def fn_Shelf_there : Fn := runFn 2 B_Shelf_there
def B_day_of : DS0 :=
  (retS (op2 fdivD (varE 0) (constE c_DAY)))
def fn_day_of : Fn := runFn 1 B_day_of
def B_Shelf_is_full : DS0 :=
  (consS (ifS (orT (notT (truT (methE 3 2 fn_Shelf_there (varE 0) (consA (constE (.int 0)) nilA)))) (cmpT eqD (methE 2 2 fn_Disk_text (fldE att 8 (varE 0)) (consA (constE c_NAME) nilA)) (constE (.str []))))
    (retS (constE (.bl false)))
    nilS)
    (consS (setS 3 (methE 2 2 fn_Disk_text (fldE att 8 (varE 0)) (consA (constE c_NAME) nilA)))
    (consS (setS 4 (op2 ixD (fnE 1 (closeFn fn_read_row) (consA (op2 ixD (fnE 1 (closeFn fn_whole_rows) (consA (varE 3) nilA)) (constE (.int 0))) nilA)) (constE (.int 1))))
    (retS (orE (op2 gtD (op2 (addD false) (callE lenF (consA (varE 3) nilA)) (callE lenF (consA (varE 1) nilA))) (fldE att 9 (varE 0))) (op2 neD (fnE 1 (closeFn fn_day_of) (consA (op2 ixD (varE 4) (constE (.int 0))) nilA)) (fnE 1 (closeFn fn_day_of) (consA (op2 ixD (varE 2) (constE (.int 0))) nilA))))))))
def fn_Shelf_is_full : Fn := runFn 5 B_Shelf_is_full
def Q_Shelf_move_up_1 : DS0 :=
  (ifS (truT (methE 3 2 fn_Shelf_there (varE 0) (consA (varE 2) nilA)))
    (exprS (methE 2 3 fn_Disk_rename (fldE att 8 (varE 0)) (consA (fnE 1 (closeFn fn_place) (consA (varE 2) nilA)) (consA (fnE 1 (closeFn fn_place) (consA (op2 (addD false) (varE 2) (constE (.int 1))) nilA)) nilA))))
    nilS)
def B_Shelf_move_up : DS0 :=
  (forS (callI range3F (consA (op2 subD (varE 1) (constE (.int 1))) (consA (op1 negD (constE (.int 1))) (consA (op1 negD (constE (.int 1))) nilA)))) (nameG 2)
    Q_Shelf_move_up_1)
def fn_Shelf_move_up : Fn := runFn 3 B_Shelf_move_up
def B_Shelf_turn : DS0 :=
  (consS (ifS (truT (methE 3 2 fn_Shelf_there (varE 0) (consA (fldE att 10 (varE 0)) nilA)))
    (exprS (methE 2 2 fn_Disk_drop (fldE att 8 (varE 0)) (consA (fnE 1 (closeFn fn_place) (consA (fldE att 10 (varE 0)) nilA)) nilA)))
    nilS)
    (consS (setS 1 (lcE false (callI range2F (consA (constE (.int 1)) (consA (op2 (addD false) (fldE att 10 (varE 0)) (constE (.int 1))) nilA))) (nameG 2) (notT (truT (methE 3 2 fn_Shelf_there (varE 0) (consA (varE 2) nilA)))) (varE 2) [2]))
    (exprS (methE 3 2 fn_Shelf_move_up (varE 0) (consA (op2 ixD (varE 1) (constE (.int 0))) nilA)))))
def fn_Shelf_turn : Fn := runFn 3 B_Shelf_turn
def B_row_of : DS0 :=
  (consS (asgS (tupG 4 (consG (nameG 2) (consG (nameG 3) (consG (nameG 4) (consG (nameG 5) nilG))))) (varE 1))
    (consS (setS 6 (varE 4))
    (consS (ifS (cmpT eqD (varE 4) (constE (.str [])))
    (setS 6 (constE (.str [42])))
    nilS)
    (retS (joinE (consJ (fmtE (varE 0)) (consJ (constE (.str [32])) (consJ (fmtE (varE 2)) (consJ (constE (.str [32])) (consJ (fmtE (fnE 1 (closeFn fn_level_word) (consA (varE 3) nilA))) (consJ (constE (.str [32])) (consJ (fmtE (varE 6)) (consJ (constE (.str [32])) (consJ (fmtE (varE 5)) nilJ))))))))))))))
def fn_row_of : Fn := runFn 7 B_row_of
def B_Shelf_write : DS0 :=
  (consS (ifS (cmpT leD (varE 1) (fldE att 11 (varE 0)))
    (retS (constE (.bl false)))
    nilS)
    (consS (setS 3 (op2 (addD false) (fnE 2 (closeFn fn_row_of) (consA (varE 1) (consA (varE 2) nilA))) (constE (.str [10]))))
    (consS (ifS (truT (methE 3 3 fn_Shelf_is_full (varE 0) (consA (varE 3) (consA (varE 2) nilA))))
    (exprS (methE 3 1 fn_Shelf_turn (varE 0) nilA))
    nilS)
    (consS (exprS (methE 2 3 fn_Disk_put_behind (fldE att 8 (varE 0)) (consA (constE c_NAME) (consA (varE 3) nilA))))
    (consS (fldS att 11 (varE 0) (varE 1))
    (retS (constE (.bl true))))))))
def fn_Shelf_write : Fn := runFn 4 B_Shelf_write
def B__law_cell : DS0 :=
  (consS (ifS (cmpT ltD (varE 1) (callE lenF (consA (varE 0) nilA)))
    (retS (op2 ixD (varE 0) (varE 1)))
    nilS)
    (retS (constE (.int 0))))
def fn__law_cell : Fn := runFn 2 B__law_cell
def B__law_d : DS0 :=
  (consS (setS 3 (op2 modD (op2 (addD false) (varE 0) (op2 (mulD false) (constE (.int 104729)) (varE 1))) (constE (.int 4294967291))))
    (consS (setS 3 (op2 modD (op2 (mulD false) (op2 modD (op2 (mulD false) (varE 3) (varE 3)) (constE (.int 4294967279))) (constE (.int 48271))) (constE (.int 4294967291))))
    (retS (op2 modD (op2 fdivD (varE 3) (constE (.int 64))) (varE 2)))))
def fn__law_d : Fn := runFn 4 B__law_d
def B__law_draw : DS0 :=
  (consS (exprS (bmE tyLst appendF (varE 1) (consA (constE (.int 0)) nilA)))
    (consS (setS 3 (callE lenF (consA (varE 1) nilA)))
    (consS (setS 4 (constE (.int 0)))
    (consS (ifS (truT (varE 0))
    (setS 4 (op2 ixD (varE 0) (op2 modD (varE 3) (callE lenF (consA (varE 0) nilA)))))
    nilS)
    (consS (setS 5 (op2 modD (op2 (addD false) (varE 4) (op2 (mulD false) (constE (.int 104729)) (varE 3))) (constE (.int 4294967291))))
    (consS (setS 5 (op2 modD (op2 (mulD false) (op2 modD (op2 (mulD false) (varE 5) (varE 5)) (constE (.int 4294967279))) (constE (.int 48271))) (constE (.int 4294967291))))
    (consS (setS 6 (op2 modD (op2 (mulD false) (op2 modD (op2 (mulD false) (varE 5) (varE 5)) (constE (.int 4294967279))) (constE (.int 69621))) (constE (.int 4294967291))))
    (retS (op2 modD (op2 (addD false) (op2 (mulD false) (op2 fdivD (varE 5) (constE (.int 64))) (constE (.int 67108864))) (op2 fdivD (varE 6) (constE (.int 64)))) (varE 2))))))))))
def fn__law_draw : Fn := runFn 7 B__law_draw
def B__law_pick : DS0 :=
  (retS (op2 ixD (varE 2) (fnE 3 fn__law_draw (consA (varE 0) (consA (varE 1) (consA (callE lenF (consA (varE 2) nilA)) nilA))))))
def fn__law_pick : Fn := runFn 3 B__law_pick
-- a group that calls itself: _law_same
def B__law_same (r__law_same : Fn) : DS0 :=
  (consS (ifS (cmpT isNoneD (varE 1) (constE .non))
    (retS (op2 isNoneD (varE 0) (constE .non)))
    nilS)
    (consS (ifS (truT (op1 (isiD 1) (varE 1)))
    (retS (andE (op1 (isiD 1) (varE 0)) (op2 eqD (varE 0) (varE 1))))
    nilS)
    (consS (ifS (truT (op1 (isiD 4) (varE 1)))
    (consS (ifS (orT (notT (truT (op1 (isiD 4) (varE 0)))) (cmpT neD (callE lenF (consA (varE 0) nilA)) (callE lenF (consA (varE 1) nilA))))
    (retS (constE (.bl false)))
    nilS)
    (retS (callE allF (consA (lcE false (callI zipF (consA (varE 0) (consA (varE 1) nilA))) (tupG 2 (consG (nameG 2) (consG (nameG 3) nilG))) yesT (fnE 2 (closeFn r__law_same) (consA (varE 2) (consA (varE 3) nilA))) [2, 3]) nilA))))
    nilS)
    (consS (ifS (truT (op1 (isiD 3) (varE 1)))
    (retS (andE (op1 (isiD 3) (varE 0)) (op2 eqD (varE 0) (varE 1))))
    nilS)
    (retS (andE (op1 (isiD 2) (varE 0)) (andE (notE (op1 (isiD 1) (varE 0))) (op2 eqD (varE 0) (varE 1)))))))))
def fn__law_same : Nat → Fn
  | 0 => fun _ _ => .bad
  | n + 1 => runFn 4 (B__law_same (fn__law_same n))
def Q_short_1 : DS0 :=
  (setS 3 (op2 (addD false) (varE 3) (constE (.int 1))))
def Q_short_2 : DS0 :=
  (consS (setS 3 (constE (.int 0)))
    (consS (whileS 100000 (andT (cmpT ltD (op2 (addD false) (op2 (addD false) (varE 2) (varE 3)) (constE (.int 1))) (callE lenF (consA (varE 0) nilA))) (cmpT eqD (op2 ixD (varE 0) (op2 (addD false) (op2 (addD false) (varE 2) (varE 3)) (constE (.int 1)))) (op2 ixD (varE 0) (varE 2))))
    Q_short_1)
    (consS (exprS (bmE tyLst appendF (varE 1) (consA (op2 (addD false) (constE (.str [61])) (op2 ixD (varE 0) (varE 2))) nilA)))
    (consS (ifS (cmpT gtD (varE 3) (constE (.int 0)))
    (exprS (bmE tyLst appendF (varE 1) (consA (joinE (consJ (constE (.str [43])) (consJ (fmtE (varE 3)) nilJ))) nilA)))
    nilS)
    (setS 2 (op2 (addD false) (op2 (addD false) (varE 2) (varE 3)) (constE (.int 1))))))))
def B_short : DS0 :=
  (consS (setS 1 (lstE true nilA))
    (consS (setS 2 (constE (.int 0)))
    (consS (whileS 100000 (cmpT ltD (varE 2) (callE lenF (consA (varE 0) nilA)))
    Q_short_2)
    (retS (callE tupleF (consA (varE 1) nilA))))))
def fn_short : Fn := runFn 4 B_short
def B_times_of : DS0 :=
  (consS (setS 1 (slE false (varE 0) (someP (constE (.int 1))) noP))
    (consS (ifS (orT (cmpT neD (slE false (varE 0) noP (someP (constE (.int 1)))) (constE (.str [43]))) (orT (notT (chainT leD leD (constE (.int 1)) (callE lenF (consA (varE 1) nilA)) (constE (.int 3)))) (notT (truT (callE allF (consA (lcE false (seqI (varE 1)) (nameG 2) yesT (op2 (inB false) (varE 2) (constE (.str [48, 49, 50, 51, 52, 53, 54, 55, 56, 57]))) [2]) nilA))))))
    (raiseS 2)
    nilS)
    (consS (ifS (cmpT eqD (op2 ixD (varE 1) (constE (.int 0))) (constE (.str [48])))
    (raiseS 2)
    nilS)
    (retS (callE intF (consA (varE 1) nilA))))))
def fn_times_of : Fn := runFn 3 B_times_of
def Q_long_1 : DS0 :=
  (ifS (cmpT eqD (slE false (varE 2) noP (someP (constE (.int 1)))) (constE (.str [61])))
    (setS 1 (op2 (addD false) (varE 1) (tupE (consA (slE false (varE 2) (someP (constE (.int 1))) noP) nilA))))
    (consS (setS 3 (fnE 1 (closeFn fn_times_of) (consA (varE 2) nilA)))
    (consS (ifS (orT (notT (truT (varE 1))) (cmpT gtD (op2 (addD false) (callE lenF (consA (varE 1) nilA)) (varE 3)) (constE c_TEXTS_MOST)))
    (raiseS 2)
    nilS)
    (setS 1 (op2 (addD false) (varE 1) (op2 mulTD (tupE (consA (op2 ixD (varE 1) (op1 negD (constE (.int 1)))) nilA)) (varE 3)))))))
def B_long : DS0 :=
  (consS (setS 1 (tupE nilA))
    (consS (forS (seqI (varE 0)) (nameG 2)
    Q_long_1)
    (consS (ifS (orT (cmpT gtD (callE lenF (consA (varE 1) nilA)) (constE c_TEXTS_MOST)) (cmpT neD (fnE 1 (closeFn fn_short) (consA (varE 1) nilA)) (callE tupleF (consA (varE 0) nilA))))
    (raiseS 2)
    nilS)
    (retS (varE 1)))))
def fn_long : Fn := runFn 4 B_long
def B_looked_up : DS0 :=
  (consS (setS 3 (fnE 1 (closeFn fn_read_gate) (consA (varE 2) nilA)))
    (retS (callE tupleF (consA (lcE false (seqI (fnE 2 fn_kept_rows (consA (varE 0) (consA (varE 1) nilA)))) (tupG 2 (consG (nameG 4) (consG (nameG 5) nilG))) (truT (fnE 2 (closeFn (fn_passes 100)) (consA (varE 3) (consA (varE 5) nilA)))) (varE 5) [4, 5]) nilA))))
def fn_looked_up : Fn := runFn 6 B_looked_up
def Q_merged_1 : DS0 :=
  (exprS (bmE tyLst appendF (varE 1) (consA (tupE (consA (op2 ixD (varE 5) (constE (.int 0))) (consA (varE 2) (consA (varE 4) nilA)))) nilA)))
def Q_merged_2 : DS0 :=
  (forS (callI enumF (consA (varE 3) nilA)) (tupG 2 (consG (nameG 4) (consG (nameG 5) nilG)))
    Q_merged_1)
def B_merged : DS0 :=
  (consS (setS 1 (lstE true nilA))
    (consS (forS (callI enumF (consA (varE 0) nilA)) (tupG 2 (consG (nameG 2) (consG (nameG 3) nilG)))
    Q_merged_2)
    (retS (callE tupleF (consA (lcE false (seqI (callE (sortedF false) (consA (varE 1) nilA))) (tupG 3 (consG (nameG 6) (consG (nameG 2) (consG (nameG 4) nilG)))) yesT (op2 ixD (op2 ixD (varE 0) (varE 2)) (varE 4)) [6, 2, 4]) nilA)))))
def fn_merged : Fn := runFn 7 B_merged
def B_strength : DS0 :=
  (consS (ifS (cmpT eqD (op2 ixD (varE 0) (constE (.int 0))) (constE (.str [111, 114])))
    (retS (constE (.int 0)))
    nilS)
    (consS (ifS (cmpT eqD (op2 ixD (varE 0) (constE (.int 0))) (constE (.str [97, 110, 100])))
    (retS (constE (.int 1)))
    nilS)
    (retS (constE (.int 2)))))
def fn_strength : Fn := runFn 1 B_strength
-- a group that calls itself: shown_within shown
def B_shown_within (r_shown_within : Fn) (r_shown : Fn) : DS0 :=
  (consS (ifS (cmpT ltD (fnE 1 (closeFn fn_strength) (consA (varE 0) nilA)) (varE 1))
    (retS (joinE (consJ (constE (.str [40])) (consJ (fmtE (fnE 1 (closeFn r_shown) (consA (varE 0) nilA))) (consJ (constE (.str [41])) nilJ)))))
    nilS)
    (retS (fnE 1 (closeFn r_shown) (consA (varE 0) nilA))))
def B_shown (r_shown_within : Fn) (r_shown : Fn) : DS0 :=
  (consS (setS 1 (op2 ixD (varE 0) (constE (.int 0))))
    (consS (ifS (cmpT (inB false) (varE 1) (tupE (consA (constE (.str [121, 101, 115])) (consA (constE (.str [110, 111])) nilA))))
    (retS (varE 1))
    nilS)
    (consS (ifS (cmpT eqD (varE 1) (constE (.str [108, 101, 118, 101, 108])))
    (retS (joinE (consJ (constE (.str [108, 101, 118, 101, 108, 32])) (consJ (fmtE (op2 ixD (varE 0) (constE (.int 1)))) nilJ))))
    nilS)
    (consS (ifS (cmpT eqD (varE 1) (constE (.str [117, 110, 100, 101, 114])))
    (retS (op2 (addD false) (constE (.str [117, 110, 100, 101, 114, 32])) (orE (op2 ixD (varE 0) (constE (.int 1))) (constE (.str [42])))))
    nilS)
    (consS (ifS (cmpT eqD (varE 1) (constE (.str [104, 97, 115])))
    (retS (joinE (consJ (constE (.str [104, 97, 115, 32, 39])) (consJ (fmtE (op2 ixD (varE 0) (constE (.int 1)))) (consJ (constE (.str [39])) nilJ)))))
    nilS)
    (consS (ifS (cmpT eqD (varE 1) (constE (.str [110, 111, 116])))
    (retS (joinE (consJ (constE (.str [110, 111, 116, 32])) (consJ (fmtE (fnE 2 (closeFn r_shown_within) (consA (op2 ixD (varE 0) (constE (.int 1))) (consA (constE (.int 2)) nilA)))) nilJ))))
    nilS)
    (consS (setS 2 (fnE 1 (closeFn fn_strength) (consA (varE 0) nilA)))
    (retS (joinE (consJ (fmtE (fnE 2 (closeFn r_shown_within) (consA (op2 ixD (varE 0) (constE (.int 1))) (consA (varE 2) nilA)))) (consJ (constE (.str [32])) (consJ (fmtE (varE 1)) (consJ (constE (.str [32])) (consJ (fmtE (fnE 2 (closeFn r_shown_within) (consA (op2 ixD (varE 0) (constE (.int 2))) (consA (op2 (addD false) (varE 2) (constE (.int 1))) nilA)))) nilJ))))))))))))))
def grp_shown_within : Nat → Fn × Fn
  | 0 => (fun _ _ => .bad, fun _ _ => .bad)
  | n + 1 => let g := grp_shown_within n; (runFn 2 (B_shown_within g.1 g.2), runFn 3 (B_shown g.1 g.2))
def fn_shown_within (n : Nat) : Fn := (grp_shown_within n).1
def fn_shown (n : Nat) : Fn := (grp_shown_within n).2
end Dn.Lib
set_option linter.all false
set_option maxRecDepth 100000
namespace Dn
open PySem
/-! ### laws' common words: lemmas -/
theorem close_ok {fn : Fn} {ds : List D} {O O' : Sto} {d : D} (h1 : noObL ds = true) (h2 : fn ds [] = .ok d O') (h3 : noOb d = true) : closeFn fn ds O = .ok d O := by
  unfold closeFn
  rw [if_pos h1, h2]
  simp [h3]
theorem law_d_eq (c s m : Int) (O : Sto) (hm : 0 < m) : Lib.fn__law_d [.int c, .int s, .int m] O = .ok (.int (lawD c s m)) O := by
  have h1 : mulOk 104729 s = true := by simp [mulOk]
  have h2 : ∀ n : Int, mulOk (n % 4294967291) (n % 4294967291) = true := fun n => by simp [mulOk]; omega
  have h3 : ∀ n : Int, mulOk (n % 4294967279) 48271 = true := fun n => by simp [mulOk]
  simp [Lib.fn__law_d, runFn, Lib.B__law_d, consS, setS, retS, op2, varE, constE, mulD, addD, modD, fdivD, bind_ok, bindS_ok, bind_nx, h1, h2, h3, hm, lawD]
theorem law_d_c (c s m : Int) (O : Sto) (hm : 0 < m) : closeFn Lib.fn__law_d [.int c, .int s, .int m] O = .ok (.int (lawD c s m)) O :=
  close_ok (by simp [noObL, noOb]) (law_d_eq c s m [] hm) rfl
theorem lawD_range (c s m : Int) (hm : 0 < m) : 0 ≤ lawD c s m ∧ lawD c s m < m := by
  unfold lawD
  exact ⟨Int.emod_nonneg _ (by omega), Int.emod_lt_of_pos _ hm⟩
/-- data that the laws' word for sameness takes -/
def sameOk : Nat → D → Bool
  | 0, _ => false
  | n + 1, d => match d with
    | .tup ds => decide (ds.length ≤ 1000000) && ds.all (sameOk n)
    | .lst _ => false | .scr _ => false | .ob _ => false
    | _ => true
theorem sameOk_noOb : ∀ (n : Nat) (d : D), sameOk n d = true → noOb d = true
  | 0, _, h => by simp [sameOk] at h
  | n + 1, d, h => by
    cases d <;> simp [sameOk] at h <;> simp [noOb]
    rename_i ds
    have : ∀ l : List D, (∀ x ∈ l, sameOk n x = true) → noObL l = true := by
      intro l
      induction l with
      | nil => intro _; rfl
      | cons a l ih => intro hl; simp only [noObL, Bool.and_eq_true]; exact ⟨sameOk_noOb n a (hl a (by simp)), ih fun x hx => hl x (by simp [hx])⟩
    exact this ds h.2
theorem lc_same {fn : Fn} {st : List (Nat × List D)} {r : Rho} (hr : ∃ a b, r = [a, b, none, none]) (hst : ∀ O, stillOk st O = true) : ∀ (ds acc : List D) (O : Sto), (∀ d ∈ ds, closeFn fn [d, d] O = .ok (.bl true) O) → acc.length + ds.length ≤ 16777216 →
    lcL (tupG 2 (consG (nameG 2) (consG (nameG 3) nilG))) yesT (fnE 2 (closeFn fn) (consA (varE 2) (consA (varE 3) nilA))) st r (zipD ds ds) acc O = .ok (acc ++ ds.map fun _ => D.bl true) O
  | [], acc, O, _, _ => by simp [zipD, lcL, hst]
  | d :: ds, acc, O, h, hl => by
    obtain ⟨a, b, rfl⟩ := hr
    have hd := h d (by simp)
    have ih := lc_same (fn := fn) (st := st) (r := [a, b, none, none]) ⟨a, b, rfl⟩ hst ds (acc ++ [D.bl true]) O (fun x hx => h x (by simp [hx])) (by simp at hl ⊢; omega)
    simp only [List.length_cons] at hl
    have hz : acc.length < sizeLine := by show acc.length < 2 ^ 24; omega
    simp [zipD, lcL, hst, tupG, seqR, consG, nameG, nilG, yesT, fnE, consA, varE, nilA, bind_ok, hd, hz, ih]
theorem bls_true (ds : List D) : bls (ds.map fun _ => D.bl true) = some (ds.map fun _ => true) := by
  induction ds with
  | nil => rfl
  | cons a l ih => simp [bls, blD, ih]
theorem eqv_refl_flat {d : D} (h : flatD d = true) : eqv d d = true := by
  cases d <;> simp [flatD] at h <;> simp [eqv]
theorem same_ok : ∀ (n : Nat) (d : D) (O : Sto), sameOk n d = true → Lib.fn__law_same n [d, d] O = .ok (.bl true) O
  | 0, _, _, h => by simp [sameOk] at h
  | n + 1, d, O, h => by
    cases d with
    | lst ds => simp [sameOk] at h
    | scr ds => simp [sameOk] at h
    | ob ds => simp [sameOk] at h
    | non => simp [Lib.fn__law_same, runFn, Lib.B__law_same, consS, ifS, cmpT, op2, isNoneD, varE, constE, bind_ok, asB, bindS_ok, retS, isND, bind_ret]
    | bl b => simp [Lib.fn__law_same, runFn, Lib.B__law_same, consS, ifS, cmpT, op2, op1, isNoneD, varE, constE, bind_ok, asB, bindS_ok, retS, isND, bind_ret, bind_nx, nilS, truT, truD, isiD, tyD, isTy, andE, eqD, quick, eqv]
    | int b => simp [Lib.fn__law_same, runFn, Lib.B__law_same, consS, ifS, cmpT, op2, op1, isNoneD, varE, constE, bind_ok, asB, bindS_ok, retS, isND, bind_ret, bind_nx, nilS, truT, truD, isiD, tyD, isTy, andE, notE, eqD, quick, eqv]
    | str b => simp [Lib.fn__law_same, runFn, Lib.B__law_same, consS, ifS, cmpT, op2, op1, isNoneD, varE, constE, bind_ok, asB, bindS_ok, retS, isND, bind_ret, bind_nx, nilS, truT, truD, isiD, tyD, isTy, andE, notE, eqD, quick, eqv]
    | tup ds =>
      simp only [sameOk, Bool.and_eq_true, decide_eq_true_eq] at h
      have hall := List.all_eq_true.mp h.2
      have hd : ∀ d ∈ ds, closeFn (Lib.fn__law_same n) [d, d] O = .ok (.bl true) O := fun d hd => by
        have q := sameOk_noOb n d (hall d hd)
        exact close_ok (by simp [noObL, q]) (same_ok n d [] (hall d hd)) rfl
      have lc := lc_same (fn := Lib.fn__law_same n) (st := []) (r := [some (.tup ds), some (.tup ds), none, none]) ⟨_, _, rfl⟩ (fun _ => rfl) ds [] O hd (by simp; omega)
      simp [Lib.fn__law_same, runFn, Lib.B__law_same, consS, ifS, cmpT, op2, op1, isNoneD, varE, constE, bind_ok, asB, bindS_ok, retS, isND, bind_ret, bind_nx, nilS, truT, truD, isiD, tyD, isTy, orT, notT, callE, consA, nilA, lenF, lenD, seqR, neD, quick, eqv,
        lcE, callI, zipF, wipeR, lc, mkL, allF, listR, listS, bls_true]
theorem same_c (n : Nat) (d : D) (O : Sto) (h : sameOk n d = true) : closeFn (Lib.fn__law_same n) [d, d] O = .ok (.bl true) O := by
  have q := sameOk_noOb n d h
  exact close_ok (by simp [noObL, q]) (same_ok n d [] h) rfl
end Dn
set_option linter.all false
set_option maxRecDepth 100000
namespace Dn
open PySem
/-! ### evaluation, by simp -/
section
variable {f g h : DE0} {fs gs : DS0} {c d : Rho → Sto → Res Bool} {fas : Rho → Sto → Res (List D)} {r : Rho} {O : Sto}
@[simp] theorem bind_ok' {α γ : Type} (a : α) (O : Sto) (k : α → Sto → Res γ) : (Res.ok a O).bind k = k a O := rfl
@[simp] theorem bind_ex' {α γ : Type} (e : Er) (O : Sto) (k : α → Sto → Res γ) : (Res.exc e O : Res α).bind k = .exc e O := rfl
@[simp] theorem bindS_ok' {α : Type} (a : α) (O : Sto) (r : Rho) (k : α → Sto → SR) : (Res.ok a O).bindS r k = k a O := rfl
@[simp] theorem bindS_ex' {α : Type} (e : Er) (O : Sto) (r : Rho) (k : α → Sto → SR) : (Res.exc e O : Res α).bindS r k = .exc e r O := rfl
@[simp] theorem bind_nx' (r : Rho) (O : Sto) (k : Rho → Sto → SR) : (SR.nx r O).bind k = k r O := rfl
@[simp] theorem bind_ret' (d : D) (O : Sto) (k : Rho → Sto → SR) : (SR.ret d O).bind k = .ret d O := rfl
@[simp] theorem bind_exc' (e : Er) (r : Rho) (O : Sto) (k : Rho → Sto → SR) : (SR.exc e r O).bind k = .exc e r O := rfl
@[simp] theorem bind_ct' (r : Rho) (O : Sto) (k : Rho → Sto → SR) : (SR.ct r O).bind k = .ct r O := rfl
@[simp] theorem bind_bk' (r : Rho) (O : Sto) (k : Rho → Sto → SR) : (SR.bk r O).bind k = .bk r O := rfl
@[simp] theorem ev_var {i : Nat} {d : D} (e : r[i]? = some (some d)) : varE i r O = .ok d O := by unfold varE; rw [e]
theorem ev_var' (i : Nat) (r : Rho) (O : Sto) : varE i r O = match r[i]? with | some (some d) => .ok d O | _ => .bad := rfl
@[simp] theorem ev_const (d : D) : constE d r O = .ok d O := rfl
@[simp] theorem ev_op2 (o : O2) : op2 o f g r O = (f r O).bind fun a O1 => (g r O1).bind fun b O2 => o a b O2 := rfl
@[simp] theorem ev_op1 (o : O1) : op1 o f r O = (f r O).bind fun a O1 => o a O1 := rfl
@[simp] theorem ev_truT : truT f r O = (f r O).bind truD := rfl
@[simp] theorem ev_cmpT (o : O2) : cmpT o f g r O = ((f r O).bind fun a O1 => (g r O1).bind fun b O2 => o a b O2).bind asB := rfl
@[simp] theorem ev_asB (b : Bool) : asB (.bl b) O = .ok b O := rfl
@[simp] theorem ev_andT : andT c d r O = (c r O).bind fun k O1 => if k then d r O1 else .ok false O1 := rfl
@[simp] theorem ev_orT : orT c d r O = (c r O).bind fun k O1 => if k then .ok true O1 else d r O1 := rfl
@[simp] theorem ev_notT : notT c r O = (c r O).bind fun k O1 => .ok (!k) O1 := rfl
@[simp] theorem ev_andE : andE f g r O = (f r O).bind fun d O1 => (truD d O1).bind fun k O2 => if k then g r O2 else .ok d O2 := rfl
@[simp] theorem ev_orE : orE f g r O = (f r O).bind fun d O1 => (truD d O1).bind fun k O2 => if k then .ok d O2 else g r O2 := rfl
@[simp] theorem ev_notE : notE f r O = (f r O).bind fun d O1 => (truD d O1).bind fun k O2 => .ok (.bl (!k)) O2 := rfl
@[simp] theorem ev_ifE : ifE c f g r O = (c r O).bind fun k O1 => if k then f r O1 else g r O1 := rfl
@[simp] theorem ev_chainT (o o' : O2) : chainT o o' f g h r O = (chainE o o' f g h r O).bind asB := rfl
@[simp] theorem ev_chainE (o o' : O2) : chainE o o' f g h r O = (f r O).bind fun a O1 => (g r O1).bind fun b O2 => (o a b O2).bind fun z O3 => (asB z O3).bind fun k O4 => if k then (h r O4).bind fun c O5 => o' b c O5 else .ok (.bl false) O4 := rfl
@[simp] theorem ev_nilA : nilA r O = .ok [] O := rfl
@[simp] theorem ev_consA : consA f fas r O = (f r O).bind fun d O1 => (fas r O1).bind fun ds O2 => .ok (d :: ds) O2 := rfl
@[simp] theorem ev_tupE : tupE fas r O = (fas r O).bind fun ds O1 => if ds.length ≤ sizeLine then .ok (.tup ds) O1 else .bad := rfl
@[simp] theorem ev_lstE (m : Bool) : lstE m fas r O = (fas r O).bind fun ds O1 => if ds.length ≤ sizeLine then mkL m ds O1 else .bad := rfl
@[simp] theorem ev_mkF (ds : List D) : mkL false ds O = .ok (.lst ds) O := rfl
@[simp] theorem ev_mkT (ds : List D) : mkL true ds O = .ok (.ob O.length) (O ++ [.lst ds]) := rfl
@[simp] theorem ev_slE (m : Bool) (l u : Rho → Sto → Res (Option Int)) : slE m f l u r O = (f r O).bind fun d O1 => (l r O1).bind fun lo O2 => (u r O2).bind fun hi O3 => slD m d lo hi O3 := rfl
@[simp] theorem ev_noP : noP r O = .ok none O := rfl
@[simp] theorem ev_someP : someP f r O = (f r O).bind asP := rfl
@[simp] theorem ev_asP (i : Int) : asP (.int i) O = .ok (some i) O := rfl
@[simp] theorem ev_callE (F : List D → Sto → ER) : callE F fas r O = (fas r O).bind F := rfl
@[simp] theorem ev_fnE (n : Nat) (F : Fn) : fnE n F fas r O = (fas r O).bind fun ds O1 => if ds.length = n then F ds O1 else .bad := rfl
@[simp] theorem ev_bmE (ty : D → Sto → Bool) (F : D → List D → Sto → ER) : bmE ty F f fas r O = (f r O).bind fun d O1 => if ty d O1 then (fas r O1).bind fun ds O2 => F d ds O2 else .bad := rfl
@[simp] theorem ev_methE (k n : Nat) (F : Fn) : methE k n F f fas r O = (f r O).bind fun d O1 => match d with
  | .ob l => (match O1[l]? with
    | some (.ins c' _) => if c' = k then (fas r O1).bind fun ds O2 => if ds.length + 1 = n then F (.ob l :: ds) O2 else .bad else .bad
    | _ => .bad)
  | _ => .bad := rfl
@[simp] theorem ev_makeE (k n : Nat) (F : Fn) : makeE k n F fas r O = (fas r O).bind fun ds O1 => if ds.length + 1 = n then (F (.ob O1.length :: ds) (O1 ++ [.ins k []])).bind (asNon O1.length) else .bad := rfl
@[simp] theorem ev_asNon (l : Nat) : asNon l .non O = .ok (.ob l) O := rfl
@[simp] theorem ev_fldE (a : Nat → Nat → Bool) (n : Nat) : fldE a n f r O = (f r O).bind fun d O1 => match d with
  | .ob l => (match O1[l]? with
    | some (.ins c fs) => if a c n then (match getFD n fs with | some d => .ok d O1 | none => .bad) else .bad
    | _ => .bad)
  | _ => .bad := rfl
@[simp] theorem ev_fldS (a : Nat → Nat → Bool) (n : Nat) : fldS a n f g r O = (g r O).bindS r fun d O1 => (f r O1).bindS r fun o O2 => match o with
  | .ob l => (match O2[l]? with
    | some (.ins c fs) => if a c n && decide (fs.length < 1000) then .nx r (O2.set l (.ins c (putFD n d fs))) else .bad
    | _ => .bad)
  | _ => .bad := rfl
@[simp] theorem ev_consS : consS fs gs r O = (fs r O).bind gs := rfl
@[simp] theorem ev_nilS : nilS r O = .nx r O := rfl
@[simp] theorem ev_exprS : exprS f r O = (f r O).bindS r fun _ O1 => .nx r O1 := rfl
@[simp] theorem ev_contS : contS r O = .ct r O := rfl
@[simp] theorem ev_retS : retS f r O = (f r O).bindS r fun d O1 => .ret d O1 := rfl
@[simp] theorem ev_retN : retN r O = .ret .non O := rfl
@[simp] theorem ev_ifS : ifS c fs gs r O = (c r O).bindS r fun k O1 => if k then fs r O1 else gs r O1 := rfl
@[simp] theorem ev_setS (i : Nat) : setS i f r O = (f r O).bindS r fun d O1 => .nx (r.set i (some d)) O1 := rfl
@[simp] theorem ev_asgS (t : TG0) : asgS t f r O = (f r O).bindS r fun d O1 => match t d r O1 with | some (r', O') => .nx r' O' | none => .bad := rfl
@[simp] theorem ev_nameG (i : Nat) (d : D) : nameG i d r O = some (r.set i (some d), O) := rfl
@[simp] theorem ev_nilG : nilG [] r O = some (r, O) := rfl
@[simp] theorem ev_consG (t : TG0) (ts : TGs0) (d : D) (ds : List D) : consG t ts (d :: ds) r O = match t d r O with | some (r1, O1) => ts ds r1 O1 | none => none := rfl
@[simp] theorem ev_tupG (n : Nat) (ts : TGs0) (ds : List D) : tupG n ts (.tup ds) r O = if ds.length = n then ts ds r O else none := rfl
@[simp] theorem ev_subG (d : D) : subG f g d r O = match f r O with
  | .ok a O1 => (match g r O1 with | .ok b O2 => (match stoD a b d O2 with | some O3 => some (r, O3) | none => none) | _ => none)
  | _ => none := rfl
@[simp] theorem ev_forS (src : Rho → Sto → Res Src) (t : TG0) : forS src t fs r O = (src r O).bindS r fun s O1 => forL t fs s.still s.items r O1 := rfl
@[simp] theorem ev_callI (F : List D → Sto → Res Src) : callI F fas r O = (fas r O).bind F := rfl
@[simp] theorem ev_seqI : seqI f r O = (f r O).bind srcD := rfl
@[simp] theorem ev_lcE (m : Bool) (src : Rho → Sto → Res Src) (t : TG0) (own : List Nat) : lcE m src t c f own r O = (src r O).bind fun s O1 => (lcL t c f s.still (wipeR r own) s.items [] O1).bind fun ds O2 => mkL m ds O2 := rfl
@[simp] theorem ev_yesT : yesT r O = .ok true O := rfl
/-! operations -/
@[simp] theorem op_addI (m : Bool) (i j : Int) : addD m (.int i) (.int j) O = .ok (.int (i + j)) O := rfl
@[simp] theorem op_addS (m : Bool) (x y : List Nat) : addD m (.str x) (.str y) O = if x.length + y.length ≤ sizeLine then .ok (.str (x ++ y)) O else .bad := rfl
@[simp] theorem op_addT (m : Bool) (x y : List D) : addD m (.tup x) (.tup y) O = if x.length + y.length ≤ sizeLine then .ok (.tup (x ++ y)) O else .bad := rfl
@[simp] theorem op_addL (m : Bool) (x y : List D) : addD m (.lst x) (.lst y) O = if x.length + y.length ≤ sizeLine then mkL m (x ++ y) O else .bad := rfl
@[simp] theorem op_subI (i j : Int) : subD (.int i) (.int j) O = .ok (.int (i - j)) O := rfl
@[simp] theorem op_modI (i j : Int) : modD (.int i) (.int j) O = if 0 < j then .ok (.int (i % j)) O else .bad := rfl
@[simp] theorem op_fdivI (i j : Int) : fdivD (.int i) (.int j) O = if 0 < j ∧ j < 1073741824 then .ok (.int (i / j)) O else .bad := rfl
@[simp] theorem op_negI (i : Int) : negD (.int i) O = .ok (.int (-i)) O := rfl
@[simp] theorem op_mulI (m : Bool) (i j : Int) : mulD m (.int i) (.int j) O = if mulOk i j then .ok (.int (i * j)) O else .bad := rfl
@[simp] theorem op_ltI (i j : Int) : ltD (.int i) (.int j) O = .ok (.bl (decide (i < j))) O := rfl
@[simp] theorem op_leI (i j : Int) : leD (.int i) (.int j) O = .ok (.bl (decide (i ≤ j))) O := rfl
@[simp] theorem op_gtI (i j : Int) : gtD (.int i) (.int j) O = .ok (.bl (decide (j < i))) O := rfl
@[simp] theorem op_geI (i j : Int) : geD (.int i) (.int j) O = .ok (.bl (decide (j ≤ i))) O := rfl
@[simp] theorem op_eqI (i j : Int) : eqD (.int i) (.int j) O = .ok (.bl (i == j)) O := by simp [eqD, quick, eqv]
@[simp] theorem op_neI (i j : Int) : neD (.int i) (.int j) O = .ok (.bl (!(i == j))) O := by simp [neD, quick, eqv]
@[simp] theorem op_eqS (x y : List Nat) : eqD (.str x) (.str y) O = .ok (.bl (x == y)) O := by simp [eqD, quick, eqv]
@[simp] theorem op_neS (x y : List Nat) : neD (.str x) (.str y) O = .ok (.bl (!(x == y))) O := by simp [neD, quick, eqv]
@[simp] theorem op_eqB (x y : Bool) : eqD (.bl x) (.bl y) O = .ok (.bl (x == y)) O := by simp [eqD, quick, eqv]
@[simp] theorem op_neB (x y : Bool) : neD (.bl x) (.bl y) O = .ok (.bl (!(x == y))) O := by simp [neD, quick, eqv]
@[simp] theorem op_isN (d : D) : isNoneD d .non O = .ok (.bl (isND d)) O := rfl
@[simp] theorem op_notN (d : D) : notNoneD d .non O = .ok (.bl (!isND d)) O := rfl
@[simp] theorem op_inS (n : Bool) (x y : List Nat) : inB n (.str x) (.str y) O = .ok (.bl (n != (hasSub x y && decide (x.length ≤ y.length)))) O := rfl
@[simp] theorem tru_non : truD .non O = .ok false O := rfl
@[simp] theorem tru_bl (b : Bool) : truD (.bl b) O = .ok b O := rfl
@[simp] theorem tru_int (i : Int) : truD (.int i) O = .ok (i != 0) O := rfl
@[simp] theorem tru_str (x : List Nat) : truD (.str x) O = if x.length ≤ sizeLine then .ok (!x.isEmpty) O else .bad := rfl
@[simp] theorem tru_tup (x : List D) : truD (.tup x) O = .ok (!x.isEmpty) O := rfl
@[simp] theorem tru_lst (x : List D) : truD (.lst x) O = .ok (!x.isEmpty) O := rfl
@[simp] theorem isND_non : isND .non = true := rfl
@[simp] theorem isND_bl (b : Bool) : isND (.bl b) = false := rfl
@[simp] theorem isND_int (b : Int) : isND (.int b) = false := rfl
@[simp] theorem isND_str (b : List Nat) : isND (.str b) = false := rfl
@[simp] theorem isND_tup (b : List D) : isND (.tup b) = false := rfl
@[simp] theorem isND_lst (b : List D) : isND (.lst b) = false := rfl
@[simp] theorem len_tup (x : List D) : lenF [.tup x] O = .ok (.int x.length) O := rfl
@[simp] theorem len_lst (x : List D) : lenF [.lst x] O = .ok (.int x.length) O := rfl
@[simp] theorem len_scr (x : List D) : lenF [.scr x] O = .ok (.int x.length) O := rfl
@[simp] theorem len_str (x : List Nat) : lenF [.str x] O = if x.length ≤ sizeLine then .ok (.int x.length) O else .bad := rfl
@[simp] theorem ix_tupI (x : List D) (i : Int) : ixD (.tup x) (.int i) O = match getI x i with | some d => .ok d O | none => .bad := rfl
@[simp] theorem ix_lstI (x : List D) (i : Int) : ixD (.lst x) (.int i) O = match getI x i with | some d => .ok d O | none => .bad := rfl
@[simp] theorem ix_scrI (x : List D) (i : Int) : ixD (.scr x) (.int i) O = match getI x i with | some d => .ok d O | none => .bad := rfl
theorem ix_obL {l : Nat} {x : List D} (h : O[l]? = some (.lst x)) (i : Int) : ixD (.ob l) (.int i) O = match getI x i with | some d => .ok d O | none => .bad := by
  simp [ixD, dicOf, seqR, listR, listS, h] <;> rfl
theorem ix_obD {l : Nat} {kvs : List (DKey × D)} (h : O[l]? = some (.dic kvs)) (k : D) : ixD (.ob l) k O = match keyD k with | some k => (match getK kvs k with | some d => .ok d O | none => .bad) | none => .bad := by
  cases k <;> simp [ixD, dicOf, h] <;> rfl
@[simp] theorem sl_str (m : Bool) (x : List Nat) (a b : Option Int) : slD m (.str x) a b O = if x.length ≤ sizeLine then .ok (.str (cutD x a b)) O else .bad := rfl
@[simp] theorem sl_tup (m : Bool) (x : List D) (a b : Option Int) : slD m (.tup x) a b O = .ok (.tup (cutD x a b)) O := rfl
@[simp] theorem sl_lst (m : Bool) (x : List D) (a b : Option Int) : slD m (.lst x) a b O = mkL m (cutD x a b) O := rfl
@[simp] theorem sl_scr (m : Bool) (x : List D) (a b : Option Int) : slD m (.scr x) a b O = mkL m (cutD x a b) O := rfl
@[simp] theorem range1_int (j : Int) : range1F [.int j] O = if fits j then .ok ⟨rangeD 0 j, []⟩ O else .bad := rfl
@[simp] theorem range2_int (i j : Int) : range2F [.int i, .int j] O = if fits i && fits j then .ok ⟨rangeD i j, []⟩ O else .bad := rfl
@[simp] theorem enum_lst (x : List D) : enumF [.lst x] O = .ok ⟨enumD 0 x, []⟩ O := rfl
@[simp] theorem enum_scr (x : List D) : enumF [.scr x] O = .ok ⟨enumD 0 x, []⟩ O := rfl
@[simp] theorem still_nil : stillOk [] O = true := rfl
@[simp] theorem src_tup (x : List D) : srcD (.tup x) O = .ok ⟨x, []⟩ O := rfl
@[simp] theorem src_lst (x : List D) : srcD (.lst x) O = .ok ⟨x, []⟩ O := rfl
@[simp] theorem src_scr (x : List D) : srcD (.scr x) O = .ok ⟨x, []⟩ O := rfl
@[simp] theorem src_str (x : List Nat) : srcD (.str x) O = .ok ⟨x.map fun c => .str [c], []⟩ O := rfl
@[simp] theorem tuple_tup (x : List D) : tupleF [.tup x] O = .ok (.tup x) O := rfl
@[simp] theorem tuple_lst (x : List D) : tupleF [.lst x] O = .ok (.tup x) O := rfl
@[simp] theorem list_tup (m : Bool) (x : List D) : listF m [.tup x] O = mkL m x O := rfl
@[simp] theorem list_lst (m : Bool) (x : List D) : listF m [.lst x] O = mkL m x O := rfl
end
theorem sizeLine_nat : (sizeLine : Nat) = 16777216 := by decide
/-- an item at a place within -/
theorem getI_nat {ds : List D} {i : Int} (h0 : 0 ≤ i) (h1 : i < ds.length) : getI ds i = ds[i.toNat]? := by
  unfold getI L2.ixN
  rw [if_pos h0, if_pos h1]; rfl
theorem getI_lit {ds : List D} (j : Nat) (h : j < ds.length) : getI ds (j : Int) = some ds[j] := by
  rw [getI_nat (by omega) (by omega)]
  simp [h]
/-- a loop that goes on to its end -/
theorem forL_inv {t : TG0} {b : DS0} {st : List (Nat × List D)} (I : Nat → Rho → Sto → Prop) : ∀ {items : List D} {k : Nat} {r : Rho} {O : Sto},
    (∀ i d r O, items[i]? = some d → I (k + i) r O → stillOk st O = true ∧ ∃ r1 O1 r2 O2, t d r O = some (r1, O1) ∧ (b r1 O1 = .nx r2 O2 ∨ b r1 O1 = .ct r2 O2) ∧ I (k + i + 1) r2 O2) →
    I k r O → (∀ r O, I (k + items.length) r O → stillOk st O = true) → ∃ r' O', forL t b st items r O = .nx r' O' ∧ I (k + items.length) r' O'
  | [], k, r, O, _, h0, he => ⟨r, O, by unfold forL; rw [if_pos (he r O h0)], h0⟩
  | d :: ds, k, r, O, h, h0, he => by
    obtain ⟨hs, r1, O1, r2, O2, e1, e2, h2⟩ := h 0 d r O rfl h0
    have ih := forL_inv I (items := ds) (k := k + 1) (r := r2) (O := O2) (t := t) (b := b) (st := st) (fun i d r O e => by
      have := h (i + 1) d r O (by simpa using e)
      rw [show k + 1 + i = k + (i + 1) from by omega]
      exact this) h2 (fun r O => by rw [show k + 1 + ds.length = k + (d :: ds).length from by simp; omega]; exact he r O)
    rw [show k + 1 + ds.length = k + (d :: ds).length from by simp; omega] at ih
    obtain ⟨r', O', e3, h3⟩ := ih
    refine ⟨r', O', ?_, h3⟩
    unfold forL
    rw [if_pos hs, e1]
    rcases e2 with e2 | e2 <;> simp only [e2] <;> exact e3
mutual
theorem eqv_rfl : ∀ d : D, pure' d = true → eqv d d = true
  | .non, _ => by simp [eqv]
  | .bl _, _ => by simp [eqv]
  | .int _, _ => by simp [eqv]
  | .str _, _ => by simp [eqv]
  | .tup ds, h => by simp only [eqv]; exact eqvL_rfl ds (by simpa [pure'] using h)
  | .lst ds, h => by simp only [eqv]; exact eqvL_rfl ds (by simpa [pure'] using h)
  | .scr _, h => by simp [pure'] at h
  | .ob _, h => by simp [pure'] at h
theorem eqvL_rfl : ∀ ds : List D, pureL ds = true → eqvL ds ds = true
  | [], _ => by simp [eqvL]
  | d :: ds, h => by
    simp only [pureL, Bool.and_eq_true] at h
    simp only [eqvL, eqv_rfl d h.1, eqvL_rfl ds h.2, Bool.and_true]
end
/-- data to be compared, of depth n at most -/
def okN (n : Nat) (d : D) : Bool := pure' d && ((toPy d).canLay0 && decide (dep d ≤ n))
theorem okD_of {n : Nat} (hn : n ≤ 64) {d : D} (h : okN n d = true) : okD d = true := by
  simp only [okN, okD, Bool.and_eq_true, decide_eq_true_eq] at h ⊢
  exact ⟨h.1, h.2.1, by omega⟩
theorem okN_tup {n : Nat} {ds : List D} (h : ∀ d ∈ ds, okN n d = true) : okN (n + 1) (.tup ds) = true := by
  have : pureL ds = true ∧ PyData.canLayAll0 (toPyL ds) = true ∧ depL ds ≤ n := by
    induction ds with
    | nil => simp [pureL, toPyL, PyData.canLayAll0, depL]
    | cons d ds ih =>
      obtain ⟨i1, i2, i3⟩ := ih fun x hx => h x (by simp [hx])
      have hd := h d (by simp)
      simp only [okN, Bool.and_eq_true, decide_eq_true_eq] at hd
      simp only [pureL, toPyL, PyData.canLayAll0, depL, Bool.and_eq_true]
      exact ⟨⟨hd.1, i1⟩, ⟨hd.2.1, i2⟩, Nat.max_le.mpr ⟨hd.2.2, i3⟩⟩
  simp only [okN, pure', toPy, PyData.canLay0, dep, Bool.and_eq_true, decide_eq_true_eq]
  exact ⟨this.1, this.2.1, decide_eq_true (Nat.succ_le_succ this.2.2)⟩
theorem okN_mono {m n : Nat} (hn : m ≤ n) {d : D} (h : okN m d = true) : okN n d = true := by
  simp only [okN, Bool.and_eq_true, decide_eq_true_eq] at h ⊢
  exact ⟨h.1, h.2.1, by omega⟩
/-- equal tuples -/
theorem ne_same {d : D} {O : Sto} {n : Nat} (hn : n ≤ 64) (h : okN n d = true) (hu : unob d O = d) (hq : quick d d = false) : neD d d O = .ok (.bl false) O := by
  have h1 := okD_of hn h
  have hp : pure' d = true := by
    simp only [okN, Bool.and_eq_true] at h
    exact h.1
  unfold neD
  rw [hq, hu, h1, eqv_rfl d hp]
  simp
theorem ne_tup {ds : List D} {O : Sto} {n : Nat} (hn : n ≤ 64) (h : okN n (.tup ds) = true) : neD (.tup ds) (.tup ds) O = .ok (.bl false) O := ne_same hn h rfl rfl
theorem getI_some {ds : List D} {v : Int} (h0 : 0 ≤ v) (h1 : v < ds.length) : ∃ d, d ∈ ds ∧ getI ds v = some d := by
  rw [getI_nat h0 h1]
  exact ⟨ds[v.toNat]'(by omega), List.getElem_mem _, by simp <;> omega⟩
theorem two_cases {v : Int} (h : 0 ≤ v ∧ v < 2) : v = 0 ∨ v = 1 := by omega
@[simp] theorem getI_0 (a : D) (ds : List D) : getI (a :: ds) 0 = some a := by rw [getI_nat (by omega) (by simp <;> omega)]; rfl
@[simp] theorem getI_1 (a b : D) (ds : List D) : getI (a :: b :: ds) 1 = some b := by rw [getI_nat (by omega) (by simp <;> omega)]; rfl
@[simp] theorem getI_2 (a b c : D) (ds : List D) : getI (a :: b :: c :: ds) 2 = some c := by rw [getI_nat (by omega) (by simp <;> omega)]; rfl
@[simp] theorem getI_3 (a b c d : D) (ds : List D) : getI (a :: b :: c :: d :: ds) 3 = some d := by rw [getI_nat (by omega) (by simp <;> omega)]; rfl
theorem bind_iteR {α γ : Type} (p : Prop) [Decidable p] (a b : Res α) (k : α → Sto → Res γ) : (if p then a else b).bind k = if p then a.bind k else b.bind k := by split <;> rfl
theorem bindS_iteR {α : Type} (p : Prop) [Decidable p] (a b : Res α) (r : Rho) (k : α → Sto → SR) : (if p then a else b).bindS r k = if p then a.bindS r k else b.bindS r k := by split <;> rfl
theorem bind_iteS (p : Prop) [Decidable p] (a b : SR) (k : Rho → Sto → SR) : (if p then a else b).bind k = if p then a.bind k else b.bind k := by split <;> rfl
theorem runFn_eq (n : Nat) (B : DS0) (ds : List D) (O : Sto) : runFn n B ds O = match B (ds.map some ++ List.replicate (n - ds.length) none) O with
  | .nx _ O' => .ok .non O' | .ret d O' => .ok d O' | .exc e _ O' => .exc e O' | .bk _ _ => .bad | .ct _ _ => .bad | .bad => .bad := rfl
@[simp] theorem ixN_lt (n : Nat) (j : Nat) (h : j < n) : L2.ixN n (j : Int) = some j := by unfold L2.ixN; rw [if_pos (by omega), if_pos (by omega)]; simp
theorem okN_str {n : Nat} (x : List Nat) (h : ∀ c ∈ x, c < 1114112) : okN n (.str x) = true := by
  simp only [okN, pure', toPy, PyData.canLay0, dep, PyData.strOk, Bool.and_eq_true]
  refine ⟨trivial, ?_, by simp⟩
  rw [Array.all_eq_true']
  intro c hc
  exact decide_eq_true (h c (by simpa using hc))
theorem okN_int {n : Nat} (i : Int) : okN n (.int i) = true := by simp [okN, pure', toPy, PyData.canLay0, dep]
theorem okN_bl {n : Nat} (i : Bool) : okN n (.bl i) = true := by simp [okN, pure', toPy, PyData.canLay0, dep]
theorem okN_non {n : Nat} : okN n .non = true := by simp [okN, pure', toPy, PyData.canLay0, dep]
@[simp] theorem ixN_20 : L2.ixN 2 0 = some 0 := rfl
@[simp] theorem ixN_21 : L2.ixN 2 1 = some 1 := rfl
end Dn
set_option linter.all false
set_option maxRecDepth 100000
namespace Dn
open PySem
/-! ### scripts -/
abbrev scrD (ns : List Int) : D := .scr (ns.map D.int)
theorem law_cell_eq (ns : List Int) (k : Nat) (O : Sto) : Lib.fn__law_cell [scrD ns, .int k] O = .ok (.int (ns[k]?.getD 0)) O := by
  by_cases q : k < ns.length
  · have : getI (ns.map D.int) (k : Int) = some (.int ns[k]) := by rw [getI_lit k (by simpa using q)]; simp
    simp [Lib.fn__law_cell, runFn_eq, Lib.B__law_cell, scrD, q, this]
  · simp [Lib.fn__law_cell, runFn_eq, Lib.B__law_cell, scrD, q]
theorem law_cell_c (ns : List Int) (k : Nat) (O : Sto) : closeFn Lib.fn__law_cell [scrD ns, .int k] O = .ok (.int (ns[k]?.getD 0)) O := by
  have : ∀ l : List Int, noObL (l.map D.int) = true := by
    intro l; induction l with
    | nil => rfl
    | cons a l ih => simp [noObL, noOb, ih]
  exact close_ok (by simp [noObL, noOb, this]) (law_cell_eq ns k []) rfl
theorem cutD_sub {α : Type} {xs : List α} {lo hi : Option Int} {x : α} (h : x ∈ cutD xs lo hi) : x ∈ xs := by
  unfold cutD at h
  exact List.mem_of_mem_drop (List.mem_of_mem_take h)
theorem cutD_len {α : Type} (xs : List α) (lo hi : Option Int) : (cutD xs lo hi).length ≤ xs.length := by
  unfold cutD; simp; omega
/-- a part of a script: whole numbers again -/
theorem cut_script (ns : List Int) (lo hi : Option Int) : ∃ cs : List Int, cutD (ns.map D.int) lo hi = cs.map D.int ∧ cs.length ≤ ns.length ∧ cs = cutD ns lo hi := by
  refine ⟨cutD ns lo hi, ?_, cutD_len _ _ _, rfl⟩
  unfold cutD; simp [List.map_take, List.map_drop]
theorem enum_script {cs : List Int} {i : Nat} {d : D} (h : (enumD 0 (cs.map D.int))[i]? = some d) : ∃ c : Int, d = .tup [.int i, .int c] := by
  obtain ⟨a, h1, h2⟩ := enumD_get h
  rw [List.getElem?_map] at h1
  cases e : cs[i]? with
  | none => rw [e] at h1; cases h1
  | some c => rw [e] at h1; cases h1; exact ⟨c, by simpa using h2⟩
end Dn
set_option linter.all false
set_option maxRecDepth 100000
namespace Dn
open PySem
/-! ### laws that draw: the town is the first cell -/
abbrev town (t : Nat) : Cell := .lst (List.replicate t (.int 0))
def TownAt (O : Sto) (t : Nat) : Prop := O[0]? = some (town t)
/-- nothing but the town has changed -/
structure Off (O O' : Sto) : Prop where
  len : O'.length = O.length
  at' : ∀ l, l ≠ 0 → O'[l]? = O[l]?
theorem Off.refl (O : Sto) : Off O O := ⟨rfl, fun _ _ => rfl⟩
theorem Off.trans {O O' O'' : Sto} (a : Off O O') (b : Off O' O'') : Off O O'' := ⟨b.len.trans a.len, fun l h => (b.at' l h).trans (a.at' l h)⟩
theorem lt_of_get {O : Sto} {l : Nat} {c : Cell} (h : O[l]? = some c) : l < O.length := by
  rcases Nat.lt_or_ge l O.length with q | q
  · exact q
  · rw [List.getElem?_eq_none q] at h; cases h
def drawN (c k : Int) : Int := (c + 104729 * k) % 4294967291 * ((c + 104729 * k) % 4294967291) % 4294967279 * 48271 % 4294967291
def drawV (c k m : Int) : Int := (drawN c k / 64 * 67108864 + drawN c k * drawN c k % 4294967279 * 69621 % 4294967291 / 64) % m
/-- the words that draw, whatever their numbers -/
def B_drw (a p q b d e s : Int) : DS0 :=
  (consS (exprS (bmE tyLst appendF (varE 1) (consA (constE (.int 0)) nilA)))
    (consS (setS 3 (callE lenF (consA (varE 1) nilA)))
    (consS (setS 4 (constE (.int 0)))
    (consS (ifS (truT (varE 0))
    (setS 4 (op2 ixD (varE 0) (op2 modD (varE 3) (callE lenF (consA (varE 0) nilA)))))
    nilS)
    (consS (setS 5 (op2 modD (op2 (addD false) (varE 4) (op2 (mulD false) (constE (.int a)) (varE 3))) (constE (.int p))))
    (consS (setS 5 (op2 modD (op2 (mulD false) (op2 modD (op2 (mulD false) (varE 5) (varE 5)) (constE (.int q))) (constE (.int b))) (constE (.int p))))
    (consS (setS 6 (op2 modD (op2 (mulD false) (op2 modD (op2 (mulD false) (varE 5) (varE 5)) (constE (.int q))) (constE (.int d))) (constE (.int p))))
    (retS (op2 modD (op2 (addD false) (op2 (mulD false) (op2 fdivD (varE 5) (constE (.int s))) (constE (.int e))) (op2 fdivD (varE 6) (constE (.int s)))) (varE 2))))))))))
theorem drw_is : Lib.B__law_draw = B_drw 104729 4294967291 4294967279 48271 69621 67108864 64 := rfl
def drwN (a p q b c k : Int) : Int := (c + a * k) % p * ((c + a * k) % p) % q * b % p
def drwV (a p q b d e s c k m : Int) : Int := (drwN a p q b c k / s * e + drwN a p q b c k * drwN a p q b c k % q * d % p / s) % m
theorem drw_ok {a p q b d e s : Int} (hp : 0 < p) (hq : 0 < q) (hs1 : 0 < s ∧ s < 1073741824) (m1 : ∀ x, mulOk a x = true) (m2 : ∀ x, mulOk (x % p) (x % p) = true) (m3 : ∀ x, mulOk (x % q) b = true) (m4 : ∀ x, mulOk (x % q) d = true) (m5 : ∀ x, mulOk x e = true)
    (ns : List Int) {O : Sto} {t : Nat} {m : Int} (hm : 0 < m) (ht : t < 1000000) (hT : TownAt O t) :
    ∃ c : Int, runFn 7 (B_drw a p q b d e s) [.scr (ns.map D.int), .ob 0, .int m] O = .ok (.int (drwV a p q b d e s c ((t : Int) + 1) m)) (O.set 0 (town (t + 1))) := by
  have hl := lt_of_get hT
  unfold TownAt at hT
  have hz : t < sizeLine := by rw [sizeLine_nat]; omega
  have h0 : ∀ c : Cell, (O.set 0 c)[0]? = some c := fun c => by simp [hl]
  have hr : List.replicate t (D.int 0) ++ [D.int 0] = List.replicate (t + 1) (D.int 0) := by rw [List.replicate_succ']
  by_cases hn : ns = []
  · subst hn
    refine ⟨0, ?_⟩
    simp [drwV, drwN, runFn_eq, B_drw, tyLst, listR, listS, hT, appendF, hz, hr, h0, lenF, lenD, seqR, truD, mulD, m1, m2, m3, m4, m5, hm, hp, hq, hs1]
  · have hlen : 0 < ns.length := List.length_pos_iff.mpr hn
    have hi : ∃ c : Int, getI (ns.map D.int) (((t + 1 : Nat) : Int) % (ns.length : Int)) = some (.int c) := by
      have a1 := Int.emod_nonneg ((t + 1 : Nat) : Int) (show (ns.length : Int) ≠ 0 by omega)
      have a2 := Int.emod_lt_of_pos ((t + 1 : Nat) : Int) (show (0 : Int) < (ns.length : Int) by omega)
      obtain ⟨d, hd, e⟩ := getI_some (ds := ns.map D.int) a1 (by simpa using a2)
      obtain ⟨c, _, rfl⟩ := List.mem_map.mp hd
      exact ⟨c, e⟩
    obtain ⟨c, hi⟩ := hi
    simp only [Int.natCast_add, Int.natCast_one] at hi
    refine ⟨c, ?_⟩
    simp [drwV, drwN, runFn_eq, B_drw, tyLst, listR, listS, hT, appendF, hz, hr, h0, lenF, lenD, seqR, truD, mulD, m1, m2, m3, m4, m5, hm, hp, hq, hs1, hn, hlen, hi]
theorem draw_ok (ns : List Int) {O : Sto} {t : Nat} {m : Int} (hm : 0 < m) (ht : t < 1000000) (hT : TownAt O t) :
    ∃ v O', 0 ≤ v ∧ v < m ∧ Lib.fn__law_draw [.scr (ns.map D.int), .ob 0, .int m] O = .ok (.int v) O' ∧ TownAt O' (t + 1) ∧ Off O O' := by
  have hl := lt_of_get hT
  obtain ⟨c, key⟩ := drw_ok (a := 104729) (p := 4294967291) (q := 4294967279) (b := 48271) (d := 69621) (e := 67108864) (s := 64) (by omega) (by omega) (by omega)
    (fun s => by simp [mulOk]) (fun n => by simp [mulOk]; omega) (fun n => by simp [mulOk]) (fun n => by simp [mulOk]) (fun n => by simp [mulOk]) ns hm ht hT
  refine ⟨_, _, ?_, ?_, key, by unfold TownAt; simp [hl], by simp, fun l h => by simp [List.getElem?_set, Ne.symm h]⟩
  · exact Int.emod_nonneg _ (by omega)
  · exact Int.emod_lt_of_pos _ hm
/-- one of some -/
theorem pick_ok (ns : List Int) {O : Sto} {t : Nat} {ds : List D} (hd : ds ≠ []) (ht : t < 1000000) (hT : TownAt O t) :
    ∃ d O', d ∈ ds ∧ Lib.fn__law_pick [.scr (ns.map D.int), .ob 0, .lst ds] O = .ok d O' ∧ TownAt O' (t + 1) ∧ Off O O' := by
  have hl : 0 < ds.length := List.length_pos_iff.mpr hd
  obtain ⟨v, O', h0, h1, e, hT', ho⟩ := draw_ok ns (m := ds.length) (by omega) ht hT
  obtain ⟨d, hm, e2⟩ := getI_some h0 h1
  exact ⟨d, O', hm, by simp [Lib.fn__law_pick, runFn_eq, Lib.B__law_pick, e, e2], hT', ho⟩
theorem pick_tup (ns : List Int) {O : Sto} {t : Nat} {ds : List D} (hd : ds ≠ []) (ht : t < 1000000) (hT : TownAt O t) :
    ∃ d O', d ∈ ds ∧ Lib.fn__law_pick [.scr (ns.map D.int), .ob 0, .tup ds] O = .ok d O' ∧ TownAt O' (t + 1) ∧ Off O O' := by
  have hl : 0 < ds.length := List.length_pos_iff.mpr hd
  obtain ⟨v, O', h0, h1, e, hT', ho⟩ := draw_ok ns (m := ds.length) (by omega) ht hT
  obtain ⟨d, hm, e2⟩ := getI_some h0 h1
  exact ⟨d, O', hm, by simp [Lib.fn__law_pick, runFn_eq, Lib.B__law_pick, e, e2], hT', ho⟩
/-- a list written by a loop -/
theorem lcL_inv {t : TG0} {el : DE0} {st : List (Nat × List D)} {r : Rho} (I : Nat → Sto → Prop) (P : D → Prop) : ∀ {items acc : List D} {k : Nat} {O : Sto},
    (∀ i d O, items[i]? = some d → I (k + i) O → ∃ r1 y O', t d r O = some (r1, O) ∧ el r1 O = .ok y O' ∧ P y ∧ I (k + i + 1) O') →
    I k O → (∀ k O, I k O → stillOk st O = true) → acc.length + items.length ≤ sizeLine →
    ∃ ys O', lcL t yesT el st r items acc O = .ok (acc ++ ys) O' ∧ ys.length = items.length ∧ (∀ y ∈ ys, P y) ∧ I (k + items.length) O'
  | [], acc, k, O, _, h0, hs, _ => ⟨[], O, by unfold lcL; rw [if_pos (hs _ _ h0)]; simp, rfl, by simp, h0⟩
  | d :: ds, acc, k, O, h, h0, hs, hl => by
    obtain ⟨r1, y, O', e1, e2, hp, hi⟩ := h 0 d O rfl h0
    simp only [List.length_cons] at hl
    obtain ⟨ys, O'', e3, e4, e5, e6⟩ := lcL_inv I P (items := ds) (acc := acc ++ [y]) (k := k + 1) (O := O') (fun i x O hx hI => by
      have := h (i + 1) x O (by simpa using hx) (by rw [show k + (i + 1) = k + 1 + i from by omega]; exact hI)
      rw [show k + 1 + i + 1 = k + (i + 1) + 1 from by omega]
      exact this) hi hs (by simp; omega)
    refine ⟨y :: ys, O'', ?_, by simp [e4], fun z hz => ?_, by rw [show k + (d :: ds).length = k + 1 + ds.length from by simp; omega]; exact e6⟩
    · unfold lcL
      rw [if_pos (hs _ _ h0), e1]
      simp only [yesT]
      rw [e2]
      simp only []
      rw [if_pos (by omega), e3]
      simp
    · simp only [List.mem_cons] at hz
      rcases hz with rfl | hz
      · exact hp
      · exact e5 z hz
theorem eq_same {d : D} {O : Sto} {n : Nat} (hn : n ≤ 64) (h : okN n d = true) (hu : unob d O = d) (hq : quick d d = false) : eqD d d O = .ok (.bl true) O := by
  have h1 := okD_of hn h
  have hp : pure' d = true := by
    simp only [okN, Bool.and_eq_true] at h
    exact h.1
  unfold eqD
  rw [hq, hu, h1, eqv_rfl d hp]
  simp
theorem eq_tup {ds : List D} {O : Sto} {n : Nat} (hn : n ≤ 64) (h : okN n (.tup ds) = true) : eqD (.tup ds) (.tup ds) O = .ok (.bl true) O := eq_same hn h rfl rfl
@[simp] theorem eq_nil (O : Sto) : eqD (.tup []) (.tup []) O = .ok (.bl true) O := eq_tup (n := 1) (by omega) (okN_tup (by simp))
@[simp] theorem ne_nil (O : Sto) : neD (.tup []) (.tup []) O = .ok (.bl false) O := ne_tup (n := 1) (by omega) (okN_tup (by simp))
end Dn
set_option linter.all false
set_option maxRecDepth 100000
namespace Dn
open PySem
/-! ### loops without change, texts -/
theorem lcL_map {α : Type} {t : TG0} {el : DE0} {st : List (Nat × List D)} {r : Rho} {O : Sto} (e f : α → D) (hst : stillOk st O = true) : ∀ (xs : List α) (acc : List D),
    (∀ a ∈ xs, ∃ r1, t (e a) r O = some (r1, O) ∧ el r1 O = .ok (f a) O) → acc.length + xs.length ≤ sizeLine → lcL t yesT el st r (xs.map e) acc O = .ok (acc ++ xs.map f) O
  | [], acc, _, _ => by simp [lcL, hst]
  | a :: xs, acc, h, hl => by
    obtain ⟨r1, e1, e2⟩ := h a (by simp)
    simp only [List.length_cons] at hl
    have ih := lcL_map e f hst (t := t) (el := el) (r := r) xs (acc ++ [f a]) (fun b hb => h b (by simp [hb])) (by simp; omega)
    rw [List.map_cons]
    unfold lcL
    rw [if_pos hst, e1]
    simp only [yesT]
    rw [e2]
    simp only []
    rw [if_pos (by omega)]
    have ih' := ih
    simp only [List.append_assoc, List.singleton_append] at ih'
    rw [List.map_cons]
    exact ih'
theorem lcL_filter {α : Type} {t : TG0} {c : Rho → Sto → Res Bool} {el : DE0} {st : List (Nat × List D)} {r : Rho} {O : Sto} (e f : α → D) (g : α → Bool) (hst : stillOk st O = true) : ∀ (xs : List α) (acc : List D),
    (∀ a ∈ xs, ∃ r1, t (e a) r O = some (r1, O) ∧ c r1 O = .ok (g a) O ∧ el r1 O = .ok (f a) O) → acc.length + xs.length ≤ sizeLine → lcL t c el st r (xs.map e) acc O = .ok (acc ++ (xs.filter g).map f) O
  | [], acc, _, _ => by simp [lcL, hst]
  | a :: xs, acc, h, hl => by
    obtain ⟨r1, e1, e2, e3⟩ := h a (by simp)
    simp only [List.length_cons] at hl
    rw [List.map_cons]
    unfold lcL
    rw [if_pos hst, e1]
    simp only []
    rw [e2]
    cases q : g a with
    | true =>
      have ih := lcL_filter e f g hst (t := t) (c := c) (el := el) (r := r) xs (acc ++ [f a]) (fun b hb => h b (by simp [hb])) (by simp; omega)
      simp only []
      rw [e3]
      simp only []
      rw [if_pos (by omega), List.filter_cons, if_pos q, List.map_cons]
      simpa using ih
    | false =>
      have ih := lcL_filter e f g hst (t := t) (c := c) (el := el) (r := r) xs acc (fun b hb => h b (by simp [hb])) (by omega)
      simp only []
      rw [List.filter_cons, if_neg (by rw [q]; decide)]
      exact ih
theorem strsD_map : ∀ ps : List (List Nat), strsD (ps.map D.str) = some ps
  | [] => rfl
  | p :: ps => by simp [strsD, strsD_map ps]
theorem join_lst (a : List Nat) (ps : List (List Nat)) (O : Sto) (h : (ps.map (·.length)).sum + ps.length * a.length ≤ 16777216) : joinF (.str a) [.lst (ps.map D.str)] O = .ok (.str (TL.joinL a ps)) O := by
  simp only [joinF, seqR, listR, listS, strsD_map]
  rw [if_pos h]
theorem split_dot (x : List Nat) (O : Sto) (h : x.length ≤ 16000000) : splitF false (.str x) [.str [46]] O = .ok (.lst ((TL.spl [46] 0 [] x).map D.str)) O := by
  simp [splitF, h]
theorem ix_str {x : List Nat} {i : Int} (h0 : 0 ≤ i) (h1 : i < x.length) (hx : x.length ≤ 1000000) (O : Sto) : ∃ c, c ∈ x ∧ ixD (.str x) (.int i) O = .ok (.str [c]) O := by
  have hs : x.length ≤ sizeLine := by rw [sizeLine_nat]; omega
  refine ⟨x[i.toNat]'(by omega), List.getElem_mem _, ?_⟩
  simp only [ixD]
  rw [if_pos hs]
  have : L2.ixN x.length i = some i.toNat := by unfold L2.ixN; rw [if_pos h0, if_pos h1]
  rw [this]
  have h2 : x[i.toNat]? = some (x[i.toNat]'(by omega)) := List.getElem?_eq_getElem (by omega)
  simp [h2]
theorem bls_map {α : Type} (xs : List α) (g : α → Bool) : bls (xs.map fun a => D.bl (g a)) = some (xs.map g) := by
  induction xs with
  | nil => rfl
  | cons a l ih => simp [bls, blD, ih]
theorem all_map {α : Type} (xs : List α) (g : α → Bool) (O : Sto) : allF [.lst (xs.map fun a => D.bl (g a))] O = .ok (.bl (xs.all g)) O := by
  simp [allF, listR, listS, bls_map, Function.comp_def]
theorem any_map {α : Type} (xs : List α) (g : α → Bool) (O : Sto) : anyF [.lst (xs.map fun a => D.bl (g a))] O = .ok (.bl (xs.any g)) O := by
  simp [anyF, listR, listS, bls_map, Function.comp_def]
theorem cut_take {α : Type} (xs : List α) {k : Nat} (h : k ≤ xs.length) : cutD xs none (some (k : Int)) = xs.take k := by
  simp only [cutD, HT.sIx]
  rw [if_neg (by omega), List.drop_zero, Int.toNat_natCast, Nat.min_eq_left h, Nat.sub_zero]
theorem cut_last {α : Type} (xs : List α) : cutD xs none (some (-1)) = xs.take (xs.length - 1) := by
  simp only [cutD, HT.sIx]
  rw [if_pos (by omega), List.drop_zero]
  congr 1
  omega
theorem down_succ (n : Nat) : downD ((n + 1 : Nat) - 1 : Int) (-1) = .int n :: downD ((n : Int) - 1) (-1) := by
  unfold downD
  rw [show (((n + 1 : Nat) : Int) - 1 - (-1)).toNat = n + 1 from by omega, show ((n : Int) - 1 - (-1)).toNat = n from by omega, List.range_succ_eq_map]
  simp only [List.map_cons, List.map_map]
  have h1 : (D.int (((n + 1 : Nat) : Int) - 1 - ((0 : Nat) : Int))) = .int n := by congr 1; omega
  rw [h1]
  refine congrArg _ (List.map_congr_left fun k _ => ?_)
  simp only [Function.comp_apply]
  congr 1
  omega
end Dn
set_option linter.all false
set_option maxRecDepth 100000
namespace Dn
open PySem
/-! ### steps, one at a time -/
section
variable {fs gs : DS0} {c : Rho → Sto → Res Bool} {b : DS0} {r r1 r2 : Rho} {O O1 O2 : Sto} {x : SR} {d : D} {e : Er} {n : Nat}
theorem cs_nx (h : fs r O = .nx r1 O1) (k : gs r1 O1 = x) : consS fs gs r O = x := by rw [ev_consS, h]; exact k
theorem cs_ret (h : fs r O = .ret d O1) : consS fs gs r O = .ret d O1 := by rw [ev_consS, h]; rfl
theorem cs_exc (h : fs r O = .exc e r1 O1) : consS fs gs r O = .exc e r1 O1 := by rw [ev_consS, h]; rfl
theorem if_t (h : c r O = .ok true O1) (k : fs r O1 = x) : ifS c fs gs r O = x := by rw [ev_ifS, h]; exact k
theorem if_f (h : c r O = .ok false O1) (k : gs r O1 = x) : ifS c fs gs r O = x := by rw [ev_ifS, h]; exact k
theorem while_t (hc : c r O = .ok true O1) (hb : b r O1 = .nx r2 O2) (k : whileL c b n r2 O2 = x) : whileL c b (n + 1) r O = x := by
  unfold whileL; rw [hc]; simp only [bindS_ok', if_true, hb]; exact k
theorem while_f (hc : c r O = .ok false O1) : whileL c b (n + 1) r O = .nx r O1 := by
  unfold whileL; rw [hc]; simp
theorem while_ret (hc : c r O = .ok true O1) (hb : b r O1 = .ret d O2) : whileL c b (n + 1) r O = .ret d O2 := by
  unfold whileL; rw [hc]; simp only [bindS_ok', if_true, hb]
theorem while_exc (hc : c r O = .ok true O1) (hb : b r O1 = .exc e r2 O2) : whileL c b (n + 1) r O = .exc e r2 O2 := by
  unfold whileL; rw [hc]; simp only [bindS_ok', if_true, hb]
theorem ev_whileS : whileS n c b r O = whileL c b n r O := rfl
end
/-! ### loops as folds -/
theorem forL_fold {α β : Type} (e : β → D) (R : α → Rho → Sto → Prop) (f : α → β → α) {t : TG0} {bd : DS0} : ∀ (xs : List β) (a : α) {r : Rho} {O : Sto},
    (∀ pre b post r O, xs = pre ++ b :: post → R (pre.foldl f a) r O → ∃ r1 O1 r2 O2, t (e b) r O = some (r1, O1) ∧ (bd r1 O1 = .nx r2 O2 ∨ bd r1 O1 = .ct r2 O2) ∧ R (f (pre.foldl f a) b) r2 O2) →
    R a r O → ∃ r' O', forL t bd [] (xs.map e) r O = .nx r' O' ∧ R (xs.foldl f a) r' O'
  | [], a, r, O, _, h => ⟨r, O, by simp [forL], h⟩
  | b :: xs, a, r, O, hs, h => by
    obtain ⟨r1, O1, r2, O2, h1, h2, h3⟩ := hs [] b xs r O rfl h
    obtain ⟨r', O', h4, h5⟩ := forL_fold e R f (t := t) (bd := bd) xs (f a b) (r := r2) (O := O2) (fun pre c post r O q k => hs (b :: pre) c post r O (by rw [q]; rfl) k) h3
    refine ⟨r', O', ?_, h5⟩
    rw [List.map_cons]
    unfold forL
    rw [if_pos (still_nil), h1]
    rcases h2 with h2 | h2 <;> simp only [h2] <;> exact h4
/-- .. that may be left -/
theorem forL_foldM {α β ε : Type} (e : β → D) (R : α → Rho → Sto → Prop) (f : α → β → Except ε α) (X : ε → SR → Prop) {t : TG0} {bd : DS0}
    (hX : ∀ x s, X x s → (∃ d O, s = .ret d O) ∨ ∃ er r O, s = .exc er r O) : ∀ (xs : List β) (a : α) {r : Rho} {O : Sto},
    (∀ pre b post a' r O, xs = pre ++ b :: post → pre.foldlM f a = .ok a' → R a' r O → ∃ r1 O1, t (e b) r O = some (r1, O1) ∧ (match f a' b with | .ok a2 => ∃ r2 O2, (bd r1 O1 = .nx r2 O2 ∨ bd r1 O1 = .ct r2 O2) ∧ R a2 r2 O2 | .error x => X x (bd r1 O1))) →
    R a r O → (match xs.foldlM f a with | .ok a2 => ∃ r' O', forL t bd [] (xs.map e) r O = .nx r' O' ∧ R a2 r' O' | .error x => X x (forL t bd [] (xs.map e) r O))
  | [], a, r, O, _, h => ⟨r, O, by simp [forL], h⟩
  | b :: xs, a, r, O, hs, h => by
    obtain ⟨r1, O1, h1, h2⟩ := hs [] b xs a r O rfl rfl h
    rw [List.foldlM_cons]
    cases q : f a b with
    | ok a2 =>
      rw [q] at h2
      obtain ⟨r2, O2, h2, h3⟩ := h2
      have ih := forL_foldM e R f X (t := t) (bd := bd) hX xs a2 (r := r2) (O := O2) (fun pre c post a' r O q' k k2 => hs (b :: pre) c post a' r O (by rw [q']; rfl) (by rw [List.foldlM_cons, q]; exact k) k2) h3
      have eq : forL t bd [] ((b :: xs).map e) r O = forL t bd [] (xs.map e) r2 O2 := by
        rw [List.map_cons]
        conv => lhs; unfold forL
        rw [if_pos (still_nil), h1]
        rcases h2 with h2 | h2 <;> simp only [h2]
      rw [eq]
      exact ih
    | error x =>
      rw [q] at h2
      have eq : forL t bd [] ((b :: xs).map e) r O = bd r1 O1 := by
        rw [List.map_cons]
        conv => lhs; unfold forL
        rw [if_pos (still_nil), h1]
        rcases hX _ _ h2 with ⟨d, O', z⟩ | ⟨er, r', O', z⟩ <;> simp only [z]
      show X x _
      rw [eq]
      exact h2
/-! ### numbers in texts -/
theorem numT_nat (n : Nat) : numT (n : Int) = TL.numL n := by
  rw [← TL.tl_num n]
  unfold numT
  rw [TL.tl_ofString]
theorem digit_lt {n : Nat} : ∀ c ∈ TL.numL n, 48 ≤ c ∧ c ≤ 57 := by
  induction n using Nat.strongRecOn with
  | _ n ih =>
    intro c hc
    by_cases h : n < 10
    · rw [TL.numL_lt h] at hc
      simp at hc; omega
    · rw [TL.numL_step (by omega)] at hc
      rcases List.mem_append.mp hc with hc | hc
      · exact ih (n / 10) (by omega) c hc
      · simp at hc; omega
open NumText in
theorem dv_app (a : List Nat) (c : Nat) : digitsVal (a ++ [c]) = digitsVal a * 10 + (c - 48) := by
  unfold digitsVal; rw [List.foldl_append]; rfl
open NumText in
theorem dv_num (n : Nat) : digitsVal (TL.numL n) = n := by
  induction n using Nat.strongRecOn with
  | _ n ih =>
    by_cases h : n < 10
    · rw [TL.numL_lt h]; unfold digitsVal; simp
    · rw [TL.numL_step (by omega), dv_app, ih (n / 10) (by omega)]; omega
open NumText in
theorem int_digits {a : List Nat} (h : ∀ c ∈ a, 48 ≤ c ∧ c ≤ 57) (h1 : a ≠ []) (h2 : a.length ≤ 640) (O : Sto) : intF [.str a] O = .ok (.int (digitsVal a)) O := by
  have := intText_digits (x := mkS a) h h1 (by rw [len_mkS]; omega)
  simp only [intF]
  rw [if_pos h2, this]
open NumText in
/-- figures without a needless 0 are the number's own -/
theorem num_dv : ∀ (n : Nat) {a : List Nat}, a.length = n → (∀ c ∈ a, 48 ≤ c ∧ c ≤ 57) → a ≠ [] → (a.head? = some 48 → a.length = 1) → TL.numL (digitsVal a) = a
  | 0, a, hn, h, h1, h2 => absurd (List.eq_nil_of_length_eq_zero hn) h1
  | n + 1, a, hn, h, h1, h2 => by
    obtain ⟨b, c, rfl⟩ : ∃ b c, a = b ++ [c] := ⟨a.dropLast, a.getLast h1, (List.dropLast_concat_getLast h1).symm⟩
    have hc := h c (by simp)
    cases b with
    | nil =>
      have : digitsVal [c] = c - 48 := by unfold digitsVal; simp
      rw [List.nil_append, this, TL.numL_lt (by omega)]
      congr 1; omega
    | cons x b =>
      have hx := h x (by simp)
      have hx0 : x ≠ 48 := fun e => by
        have := h2 (by rw [e]; rfl)
        simp at this
      have ih := num_dv n (a := x :: b) (by simp at hn ⊢; omega) (fun c hc => h c (List.mem_append_left _ hc)) (by simp) (fun e => by simp at e; exact absurd e hx0)
      have hpos : 1 ≤ digitsVal (x :: b) := by
        cases q : digitsVal (x :: b) with
        | zero =>
          rw [q, TL.numL_lt (by omega)] at ih
          injection ih with ih _
          omega
        | succ m => omega
      rw [dv_app]
      rw [TL.numL_step (by omega), show (digitsVal (x :: b) * 10 + (c - 48)) / 10 = digitsVal (x :: b) from by omega, ih]
      congr 2
      omega
theorem numL_len {n k : Nat} (h : n < 10 ^ k) (hk : 0 < k) : (TL.numL n).length ≤ k := by
  induction k generalizing n with
  | zero => omega
  | succ k ih =>
    by_cases h1 : n < 10
    · rw [TL.numL_lt h1]; simp
    · rw [TL.numL_step (by omega)]
      by_cases hk0 : k = 0
      · subst hk0; omega
      · have := ih (n := n / 10) (by rw [Nat.pow_succ] at h; omega) (by omega)
        simp; omega
theorem numL_ne (n : Nat) : TL.numL n ≠ [] := by
  by_cases h : n < 10
  · rw [TL.numL_lt h]; simp
  · rw [TL.numL_step (by omega)]; simp
/-- no needless 0 ahead -/
theorem numL_head (n : Nat) : (TL.numL n).head? = some 48 → n = 0 := by
  induction n using Nat.strongRecOn with
  | _ n ih =>
    intro h
    by_cases h1 : n < 10
    · rw [TL.numL_lt h1] at h
      simp at h; exact h
    · rw [TL.numL_step (by omega)] at h
      have h2 : (TL.numL (n / 10)).head? = some 48 := by
        cases q : TL.numL (n / 10) with
        | nil => exact absurd q (numL_ne _)
        | cons a l => rw [q] at h; simpa using h
      have := ih (n / 10) (by omega) h2
      omega
theorem log2_small {i : Int} (h0 : 0 ≤ i) (h : i < 1000000000000) : i.natAbs.log2 < 1920 := by
  have h1 : i.natAbs < 2 ^ 40 := by
    have : (2 : Nat) ^ 40 = 1099511627776 := by decide
    omega
  by_cases h2 : i.natAbs = 0
  · rw [h2]; decide
  · have := (Nat.log2_lt h2).mpr h1
    omega
/-- one of a written list -/
theorem ix_lstD {ds : List D} {i : Int} (h0 : 0 ≤ i) (h1 : i < ds.length) (O : Sto) : ∃ d, d ∈ ds ∧ ixD (.lst ds) (.int i) O = .ok d O := by
  obtain ⟨d, m, e⟩ := getI_some h0 h1
  exact ⟨d, m, by rw [ix_lstI, e]⟩
end Dn
namespace Dn
open PySem
@[simp] theorem tru_scr (x : List D) (O : Sto) : truD (.scr x) O = .ok (!x.isEmpty) O := rfl
/-! ### slices, signs within, errors of closed defs -/
theorem cut_takeN {α : Type} (xs : List α) (k : Nat) : cutD xs none (some (k : Int)) = xs.take k := by
  simp only [cutD, HT.sIx]
  rw [if_neg (by omega), List.drop_zero, Int.toNat_natCast, Nat.sub_zero]
  by_cases h : k ≤ xs.length
  · rw [Nat.min_eq_left h]
  · rw [Nat.min_eq_right (by omega), List.take_of_length_le (by omega), List.take_of_length_le (by omega)]
theorem cut_dropN {α : Type} (xs : List α) (k : Nat) : cutD xs (some (k : Int)) none = xs.drop k := by
  simp only [cutD, HT.sIx]
  rw [if_neg (by omega), Int.toNat_natCast]
  by_cases h : k ≤ xs.length
  · rw [Nat.min_eq_left h, List.take_of_length_le (by simp)]
  · rw [Nat.min_eq_right (by omega), List.drop_eq_nil_of_le (Nat.le_refl _), List.drop_eq_nil_of_le (by omega)]; simp
@[simp] theorem cut_take1 {α : Type} (xs : List α) : cutD xs none (some 1) = xs.take 1 := cut_takeN xs 1
@[simp] theorem cut_drop1 {α : Type} (xs : List α) : cutD xs (some 1) none = xs.drop 1 := cut_dropN xs 1
theorem sub_one (c : Nat) (y : List Nat) : hasSub [c] y = y.contains c := by
  rw [Bool.eq_iff_iff]
  simp only [hasSub, List.any_eq_true, List.contains_iff_mem, List.mem_range, List.length_singleton]
  constructor
  · rintro ⟨i, _, e⟩
    have e2 := eq_of_beq e
    have : c ∈ (y.drop i).take 1 := by rw [e2]; simp
    exact List.mem_of_mem_drop (List.mem_of_mem_take this)
  · intro h
    obtain ⟨i, hi, e⟩ := List.getElem_of_mem h
    refine ⟨i, by omega, ?_⟩
    rw [beq_iff_eq, List.drop_eq_getElem_cons hi, e]; rfl
theorem close_exc {fn : Fn} {ds : List D} {O O' : Sto} {e : Er} (h1 : noObL ds = true) (h2 : fn ds [] = .exc e O') (h3 : noObF e.fs = true) : closeFn fn ds O = .exc e O := by
  unfold closeFn
  rw [if_pos h1, h2]
  simp [h3]
theorem getI_last {xs : List D} (h : xs ≠ []) : getI xs (-1) = some (xs.getLast h) := by
  have hl : 0 < xs.length := List.length_pos_iff.mpr h
  unfold getI
  have : L2.ixN xs.length (-1) = some (xs.length - 1) := by
    unfold L2.ixN
    rw [if_neg (by omega), if_pos (by omega)]
    congr 1; omega
  rw [this]
  simp [List.getLast_eq_getElem, List.getElem?_eq_getElem (show xs.length - 1 < xs.length by omega)]
theorem eqvL_strs : ∀ xs ys : List (List Nat), eqvL (xs.map D.str) (ys.map D.str) = (xs == ys)
  | [], [] => by simp [eqvL]
  | [], _ :: _ => by simp [eqvL]
  | _ :: _, [] => by simp [eqvL]
  | x :: xs, y :: ys => by
    simp only [List.map_cons, eqvL, eqv, eqvL_strs xs ys]
    rfl
theorem okD_strs {xs : List (List Nat)} (h : ∀ x ∈ xs, ∀ c ∈ x, c < 1114112) : okD (.tup (xs.map D.str)) = true :=
  okD_of (n := 5) (by omega) (okN_tup fun d hd => by
    obtain ⟨x, hx, rfl⟩ := List.mem_map.mp hd
    exact okN_str x (h x hx))
theorem ne_strs {xs ys : List (List Nat)} (hx : ∀ x ∈ xs, ∀ c ∈ x, c < 1114112) (hy : ∀ x ∈ ys, ∀ c ∈ x, c < 1114112) (O : Sto) : neD (.tup (xs.map D.str)) (.tup (ys.map D.str)) O = .ok (.bl (!(xs == ys))) O := by
  have h1 := okD_strs hx
  have h2 := okD_strs hy
  simp only [neD, quick, unob, eqv]
  rw [h1, h2, eqvL_strs]
  simp
end Dn
namespace Dn
open PySem
/-! ### comprehensions of which only the kind is known -/
theorem lcL_ex {t : TG0} {el : DE0} {st : List (Nat × List D)} {r : Rho} {O : Sto} (P : D → Prop) (hst : stillOk st O = true) : ∀ (items acc : List D),
    (∀ d ∈ items, ∃ r1 w, t d r O = some (r1, O) ∧ el r1 O = .ok w O ∧ P w) → acc.length + items.length ≤ sizeLine → ∃ ws, lcL t yesT el st r items acc O = .ok (acc ++ ws) O ∧ ws.length = items.length ∧ ∀ w ∈ ws, P w
  | [], acc, _, _ => ⟨[], by simp [lcL, hst], rfl, by simp⟩
  | d :: ds, acc, h, hl => by
    obtain ⟨r1, w, e1, e2, hw⟩ := h d (by simp)
    simp only [List.length_cons] at hl
    obtain ⟨ws, e3, e4, e5⟩ := lcL_ex P hst (t := t) (el := el) (r := r) ds (acc ++ [w]) (fun b hb => h b (by simp [hb])) (by simp; omega)
    refine ⟨w :: ws, ?_, by simp [e4], fun x hx => ?_⟩
    · unfold lcL
      rw [if_pos hst, e1]
      simp only [yesT]
      rw [e2]
      simp only []
      rw [if_pos (by omega), e3]
      simp
    · rcases List.mem_cons.mp hx with rfl | hx
      · exact hw
      · exact e5 x hx
theorem strs_ex {Q : List Nat → Prop} : ∀ {ws : List D}, (∀ w ∈ ws, ∃ x, w = .str x ∧ Q x) → ∃ xs : List (List Nat), ws = xs.map D.str ∧ ∀ x ∈ xs, Q x
  | [], _ => ⟨[], rfl, by simp⟩
  | w :: ws, h => by
    obtain ⟨x, rfl, hx⟩ := h w (by simp)
    obtain ⟨xs, rfl, hxs⟩ := strs_ex (ws := ws) fun v hv => h v (by simp [hv])
    refine ⟨x :: xs, rfl, fun y hy => ?_⟩
    rcases List.mem_cons.mp hy with rfl | hy
    · exact hx
    · exact hxs y hy
end Dn
namespace Dn
open PySem
/-! ### f-strings, part by part -/
def JP (j : DJ0) (r : Rho) (O : Sto) (xs : List (List Nat)) : Prop := ∀ acc : List Nat, acc.length + (xs.map (·.length)).sum ≤ sizeLine → j acc r O = .ok (.str (acc ++ xs.flatten)) O
theorem jp_nil {r : Rho} {O : Sto} : JP nilJ r O [] := fun acc _ => by simp [nilJ]
theorem jp_cons {f : DE0} {j : DJ0} {r : Rho} {O : Sto} {x : List Nat} {xs : List (List Nat)} (h : f r O = .ok (.str x) O) (k : JP j r O xs) : JP (consJ f j) r O (x :: xs) := fun acc hl => by
  simp only [List.map_cons, List.sum_cons] at hl
  simp only [consJ, h, bind_ok']
  rw [if_pos (by omega), k (acc ++ x) (by simp; omega)]
  simp
theorem joinE_ok {j : DJ0} {r : Rho} {O : Sto} {xs : List (List Nat)} (h : JP j r O xs) (hl : (xs.map (·.length)).sum ≤ 16777216) : joinE j r O = .ok (.str xs.flatten) O := by
  have := h [] (by rw [sizeLine_nat]; simpa using hl)
  simpa [joinE] using this
theorem fmt_str {f : DE0} {r : Rho} {O : Sto} {x : List Nat} (h : f r O = .ok (.str x) O) (hl : x.length ≤ 16777216) : fmtE f r O = .ok (.str x) O := by
  simp only [fmtE, h, bind_ok', fmtD]
  rw [if_pos (by rw [sizeLine_nat]; exact hl)]
theorem fmt_int {f : DE0} {r : Rho} {O : Sto} {n : Nat} (h : f r O = .ok (.int n) O) (hl : n < 1000000000000) : fmtE f r O = .ok (.str (TL.numL n)) O := by
  simp only [fmtE, h, bind_ok', fmtD]
  rw [if_pos (log2_small (by omega) (by omega)), numT_nat]
end Dn
namespace Dn
open PySem
theorem lcL_filt {α : Type} {t : TG0} {c : Rho → Sto → Res Bool} {el : DE0} {st : List (Nat × List D)} {r : Rho} {O : Sto} (e f : α → D) (g : α → Bool) (hst : stillOk st O = true) : ∀ (xs : List α) (acc : List D),
    (∀ a ∈ xs, ∃ r1, t (e a) r O = some (r1, O) ∧ c r1 O = .ok (g a) O ∧ (g a = true → el r1 O = .ok (f a) O)) → acc.length + xs.length ≤ sizeLine → lcL t c el st r (xs.map e) acc O = .ok (acc ++ (xs.filter g).map f) O
  | [], acc, _, _ => by simp [lcL, hst]
  | a :: xs, acc, h, hl => by
    obtain ⟨r1, e1, e2, e3⟩ := h a (by simp)
    simp only [List.length_cons] at hl
    rw [List.map_cons]
    unfold lcL
    rw [if_pos hst, e1]
    simp only []
    rw [e2]
    cases q : g a with
    | true =>
      have ih := lcL_filt e f g hst (t := t) (c := c) (el := el) (r := r) xs (acc ++ [f a]) (fun b hb => h b (by simp [hb])) (by simp; omega)
      simp only []
      rw [e3 q]
      simp only []
      rw [if_pos (by omega), List.filter_cons, if_pos q, List.map_cons]
      simpa using ih
    | false =>
      have ih := lcL_filt e f g hst (t := t) (c := c) (el := el) (r := r) xs acc (fun b hb => h b (by simp [hb])) (by omega)
      simp only []
      rw [List.filter_cons, if_neg (by rw [q]; decide)]
      exact ih
end Dn
namespace Dn
/-- texts -/
abbrev Tx := List Nat
abbrev tsD (ts : List Tx) : List D := ts.map D.str
end Dn
set_option linter.all false
set_option maxRecDepth 100000
namespace Dn.LibD
open Dn PySem Lib
def B__law_name : DS0 :=
  (consS (setS 2 (lcE false (callI range1F (consA (fnE 3 fn__law_draw (consA (varE 0) (consA (varE 1) (consA (constE (.int 5)) nilA)))) nilA)) (nameG 3) yesT (fnE 3 fn__law_pick (consA (varE 0) (consA (varE 1) (consA (lstE false (consA (constE (.str [97])) (consA (constE (.str [98])) (consA (constE (.str [97, 98])) (consA (constE (.str [120, 95, 57])) (consA (constE (.str [97, 98, 99, 100, 101, 102, 103, 104])) nilA)))))) nilA)))) [3]))
    (retS (bmE tyStr joinF (constE (.str [46])) (consA (varE 2) nilA))))
def fn__law_name : Fn := runFn 4 B__law_name
-- a group that calls itself: _law_gate
def B__law_gate (r__law_gate : Fn) : DS0 :=
  (consS (setS 3 (fnE 3 fn__law_draw (consA (varE 0) (consA (varE 1) (consA (ifE (truT (varE 2)) (constE (.int 8)) (constE (.int 4))) nilA)))))
    (consS (ifS (cmpT eqD (varE 3) (constE (.int 0)))
    (retS (tupE (consA (fnE 3 fn__law_pick (consA (varE 0) (consA (varE 1) (consA (lstE false (consA (constE (.str [121, 101, 115])) (consA (constE (.str [110, 111])) nilA))) nilA)))) nilA)))
    nilS)
    (consS (ifS (cmpT eqD (varE 3) (constE (.int 1)))
    (retS (tupE (consA (constE (.str [108, 101, 118, 101, 108])) (consA (fnE 3 fn__law_draw (consA (varE 0) (consA (varE 1) (consA (constE (.int 100)) nilA)))) nilA))))
    nilS)
    (consS (ifS (cmpT eqD (varE 3) (constE (.int 2)))
    (retS (tupE (consA (constE (.str [117, 110, 100, 101, 114])) (consA (fnE 2 fn__law_name (consA (varE 0) (consA (varE 1) nilA))) nilA))))
    nilS)
    (consS (ifS (cmpT eqD (varE 3) (constE (.int 3)))
    (retS (tupE (consA (constE (.str [104, 97, 115])) (consA (fnE 3 fn__law_pick (consA (varE 0) (consA (varE 1) (consA (lstE false (consA (constE (.str [])) (consA (constE (.str [97])) (consA (constE (.str [32, 98])) (consA (constE (.str [120])) (consA (constE (.str [102, 117, 108, 108])) nilA)))))) nilA)))) nilA))))
    nilS)
    (consS (ifS (cmpT ltD (varE 3) (constE (.int 6)))
    (retS (tupE (consA (constE (.str [110, 111, 116])) (consA (fnE 3 r__law_gate (consA (varE 0) (consA (varE 1) (consA (op2 subD (varE 2) (constE (.int 1))) nilA)))) nilA))))
    nilS)
    (consS (parS 4 5 (consA (fnE 3 r__law_gate (consA (varE 0) (consA (varE 1) (consA (op2 subD (varE 2) (constE (.int 1))) nilA)))) (consA (fnE 3 r__law_gate (consA (varE 0) (consA (varE 1) (consA (op2 subD (varE 2) (constE (.int 1))) nilA)))) nilA)))
    (retS (tupE (consA (fnE 3 fn__law_pick (consA (varE 0) (consA (varE 1) (consA (lstE false (consA (constE (.str [97, 110, 100])) (consA (constE (.str [111, 114])) nilA))) nilA)))) (consA (varE 4) (consA (varE 5) nilA))))))))))))
def fn__law_gate : Nat → Fn
  | 0 => fun _ _ => .bad
  | n + 1 => runFn 6 (B__law_gate (fn__law_gate n))
def B__law_record : DS0 :=
  (consS (setS 3 (fnE 3 fn__law_pick (consA (varE 0) (consA (varE 1) (consA (lstE false (consA (constE (.str [])) (consA (constE (.str [97, 32, 98])) (consA (constE (.str [105, 116, 39, 115])) (consA (constE (.str [120])) (consA (constE (.str [32, 32, 116, 119, 111])) (consA (constE (.str [100, 105, 115, 107, 32, 123, 102, 117, 108, 108, 125])) (consA (op2 mulSD (constE (.str [119])) (constE (.int 80))) nilA)))))))) nilA)))))
    (retS (tupE (consA (varE 2) (consA (fnE 3 fn__law_draw (consA (varE 0) (consA (varE 1) (consA (constE (.int 100)) nilA)))) (consA (fnE 2 fn__law_name (consA (varE 0) (consA (varE 1) nilA))) (consA (varE 3) nilA)))))))
def fn__law_record : Fn := runFn 4 B__law_record
end Dn.LibD
set_option Elab.async false
set_option linter.all false
set_option maxRecDepth 100000
set_option maxHeartbeats 4000000
namespace Lk36
open Dn PySem
/-! The pure functions of k36. -/
abbrev B__law_draw : DS0 := Lib.B__law_draw
abbrev fn__law_draw : Fn := Lib.fn__law_draw
def Q__law_due_1 : DS0 :=
  (consS (ifS (cmpT ltD (varE 6) (varE 4))
    (consS (exprS (bmE tyLst appendF (varE 5) (consA (constE .non) nilA)))
    contS)
    nilS)
    (consS (setS 4 (varE 6))
    (consS (setS 8 (lcE false (seqI (getE2 (varE 3) (varE 7) (lstE false nilA))) (nameG 9) (cmpT gtD (varE 9) (op2 subD (varE 6) (varE 1))) (varE 9) [9]))
    (consS (exprS (bmE tyLst appendF (varE 5) (consA (op2 ltD (callE lenF (consA (varE 8) nilA)) (varE 0)) nilA)))
    (ifS (cmpT ltD (callE lenF (consA (varE 8) nilA)) (varE 0))
    (asgS (subG (varE 3) (varE 7)) (op2 (addD false) (getE2 (varE 3) (varE 7) (lstE false nilA)) (lstE false (consA (varE 6) nilA))))
    nilS)))))
def B__law_due : DS0 :=
  (consS (parS3 3 4 5 (consA dic0E (consA (constE (.int 0)) (consA (lstE true nilA) nilA))))
    (consS (forS (seqI (varE 2)) (tupG 2 (consG (nameG 6) (consG (nameG 7) nilG)))
    Q__law_due_1)
    (retS (varE 5))))
def fn__law_due : Fn := runFn 10 B__law_due
abbrev B__law_pick : DS0 := Lib.B__law_pick
abbrev fn__law_pick : Fn := Lib.fn__law_pick
abbrev B_Limit_init : DS0 := Lib.B_Limit_init
abbrev fn_Limit_init : Fn := Lib.fn_Limit_init
abbrev B_Limit_take : DS0 := Lib.B_Limit_take
abbrev fn_Limit_take : Fn := Lib.fn_Limit_take
def Q__law_takes_1 : DS0 :=
  (tryS 6 (exprS (bmE tyLst appendF (varE 6) (consA (methE 1 3 fn_Limit_take (varE 5) (consA (op2 (addD false) (varE 3) (op2 (mulD false) (varE 7) (varE 4))) (consA (varE 8) nilA))) nilA))) (exprS (bmE tyLst appendF (varE 6) (consA (constE .non) nilA))))
def B__law_takes : DS0 :=
  (consS (parS 5 6 (consA (makeE 1 3 fn_Limit_init (consA (varE 0) (consA (op2 (mulD false) (varE 1) (varE 4)) nilA))) (consA (lstE true nilA) nilA)))
    (consS (forS (seqI (varE 2)) (tupG 2 (consG (nameG 7) (consG (nameG 8) nilG)))
    Q__law_takes_1)
    (retS (varE 6))))
def fn__law_takes : Fn := runFn 9 B__law_takes
def Q_law_1 : DS0 :=
  (consS (setS 5 (op2 (addD false) (varE 5) (fnE 3 fn__law_pick (consA (varE 0) (consA (varE 1) (consA (lstE false (consA (constE (.int 0)) (consA (constE (.int 0)) (consA (constE (.int 1)) (consA (constE (.int 2)) (consA (op2 fdivD (varE 4) (constE (.int 2))) (consA (varE 4) (consA (op1 negD (constE (.int 1))) nilA)))))))) nilA))))))
    (consS (setS 5 (callE max2F (consA (constE (.int 0)) (consA (varE 5) nilA))))
    (exprS (bmE tyLst appendF (varE 6) (consA (tupE (consA (varE 5) (consA (fnE 3 fn__law_pick (consA (varE 0) (consA (varE 1) (consA (lstE false (consA (constE (.str [97])) (consA (constE (.str [98])) (consA (constE (.str [])) nilA)))) nilA)))) nilA))) nilA)))))
def Q_law_2 : DS0 :=
  (ifS (cmpT ltD (op2 subD (op2 ixD (varE 16) (op2 (addD false) (varE 19) (varE 3))) (op2 ixD (varE 16) (varE 19))) (varE 4))
    (retS (constE (.bl false)))
    nilS)
def Q_law_3 : DS0 :=
  (consS (setS 14 (lcE false (seqI (varE 9)) (nameG 10) (cmpT eqD (op2 ixD (varE 10) (constE (.int 1))) (varE 13)) (varE 10) [10]))
    (consS (setS 15 (lcE false (callI zipF (consA (varE 9) (consA (varE 12) nilA))) (tupG 2 (consG (nameG 10) (consG (nameG 11) nilG))) (cmpT eqD (op2 ixD (varE 10) (constE (.int 1))) (varE 13)) (varE 11) [10, 11]))
    (consS (ifS (cmpT neD (fnE 5 fn__law_takes (consA (varE 3) (consA (varE 4) (consA (varE 14) (consA (constE (.int 0)) (consA (constE (.int 1)) nilA)))))) (varE 15))
    (retS (constE (.bl false)))
    nilS)
    (consS (setS 16 (lcE false (callI zipF (consA (varE 9) (consA (varE 12) nilA))) (tupG 2 (consG (tupG 2 (consG (nameG 17) (consG (nameG 18) nilG))) (consG (nameG 11) nilG))) (andT (cmpT eqD (varE 18) (varE 13)) (truT (varE 11))) (varE 17) [17, 18, 11]))
    (forS (callI range1F (consA (op2 subD (callE lenF (consA (varE 16) nilA)) (varE 3)) nilA)) (nameG 19)
    Q_law_2)))))
def Q_law_4 : DS0 :=
  (consS (parS 3 4 (consA (op2 (addD false) (constE (.int 1)) (fnE 3 fn__law_draw (consA (varE 0) (consA (varE 1) (consA (constE (.int 5)) nilA))))) (consA (op2 (addD false) (constE (.int 1)) (fnE 3 fn__law_draw (consA (varE 0) (consA (varE 1) (consA (constE (.int 60)) nilA))))) nilA)))
    (consS (parS 5 6 (consA (constE (.int 0)) (consA (lstE true nilA) nilA)))
    (consS (forS (callI range1F (consA (constE (.int 30)) nilA)) (nameG 7)
    Q_law_1)
    (consS (setS 8 (fnE 5 fn__law_takes (consA (varE 3) (consA (varE 4) (consA (varE 6) (consA (constE (.int 0)) (consA (constE (.int 1)) nilA)))))))
    (consS (ifS (orT (cmpT neD (varE 8) (fnE 3 fn__law_due (consA (varE 3) (consA (varE 4) (consA (varE 6) nilA))))) (cmpT neD (fnE 5 fn__law_takes (consA (varE 3) (consA (varE 4) (consA (varE 6) (consA (constE (.int 1000)) (consA (constE (.int 1)) nilA)))))) (varE 8)))
    (retS (constE (.bl false)))
    nilS)
    (consS (ifS (orT (cmpT neD (fnE 5 fn__law_takes (consA (varE 3) (consA (varE 4) (consA (varE 6) (consA (constE (.int 0)) (consA (constE (.int 2)) nilA)))))) (varE 8)) (cmpT neD (fnE 5 fn__law_takes (consA (varE 3) (consA (varE 4) (consA (varE 6) (consA (constE (.int 77)) (consA (constE (.int 3)) nilA)))))) (varE 8)))
    (retS (constE (.bl false)))
    nilS)
    (consS (setS 9 (lcE false (callI zipF (consA (varE 6) (consA (varE 8) nilA))) (tupG 2 (consG (nameG 10) (consG (nameG 11) nilG))) (cmpT notNoneD (varE 11) (constE .non)) (varE 10) [10, 11]))
    (consS (setS 12 (lcE false (seqI (varE 8)) (nameG 11) (cmpT notNoneD (varE 11) (constE .non)) (varE 11) [11]))
    (consS (ifS (cmpT neD (fnE 5 fn__law_takes (consA (varE 3) (consA (varE 4) (consA (varE 9) (consA (constE (.int 0)) (consA (constE (.int 1)) nilA)))))) (varE 12))
    (retS (constE (.bl false)))
    nilS)
    (consS (forS (seqI (tupE (consA (constE (.str [97])) (consA (constE (.str [98])) (consA (constE (.str [])) nilA))))) (nameG 13)
    Q_law_3)
    (ifS (cmpT neD (fnE 5 fn__law_takes (consA (constE (.int 99)) (consA (varE 4) (consA (varE 9) (consA (constE (.int 0)) (consA (constE (.int 1)) nilA)))))) (op2 (mulD false) (lstE false (consA (constE (.bl true)) nilA)) (callE lenF (consA (varE 9) nilA))))
    (retS (constE (.bl false)))
    nilS)))))))))))
def B_law : DS0 :=
  (consS (setS 1 (lstE true nilA))
    (consS (forS (callI range1F (consA (constE (.int 4)) nilA)) (nameG 2)
    Q_law_4)
    (retS (constE (.bl true)))))
def fn_law : Fn := runFn 20 B_law
end Lk36
set_option linter.all false
set_option maxRecDepth 100000
set_option maxHeartbeats 4000000
namespace Lk36
open Dn PySem
/-! ### the plain law -/
abbrev Row := Int × List Nat
def rowD (p : Row) : D := .tup [.int p.1, .str p.2]
def wD : Option Bool → D | none => .non | some b => .bl b
def ofKey (L : List Row) (k : List Nat) : List Int := (L.filter fun p => p.2 == k).map (·.1)
def late (span m : Int) (l : List Int) : List Int := l.filter fun v => decide (m - span < v)
def lets (many span : Int) (L : List Row) (p : Row) : Bool := decide (((late span p.1 (ofKey L p.2)).length : Int) < many)
def put (b : Bool) (L : List Row) (p : Row) : List Row := if b then L ++ [p] else L
def words (many span : Int) : Int → List Row → List Row → List (Option Bool)
  | _, _, [] => []
  | last, L, p :: rs => if p.1 < last then none :: words many span last L rs else some (lets many span L p) :: words many span p.1 (put (lets many span L p) L p) rs
def bs (many span : Int) : List Row → List Row → List Bool
  | _, [] => []
  | L, p :: rs => lets many span L p :: bs many span (put (lets many span L p) L p) rs
theorem words_cons (many span last : Int) (L : List Row) (p : Row) (rs : List Row) : words many span last L (p :: rs) = if p.1 < last then none :: words many span last L rs else some (lets many span L p) :: words many span p.1 (put (lets many span L p) L p) rs := rfl
theorem words_len (many span : Int) : ∀ (rs : List Row) (last : Int) (L : List Row), (words many span last L rs).length = rs.length
  | [], _, _ => rfl
  | p :: rs, last, L => by
    unfold words
    split <;> simp [words_len many span rs]
theorem bs_len (many span : Int) : ∀ (rs : List Row) (L : List Row), (bs many span L rs).length = rs.length
  | [], _ => rfl
  | p :: rs, L => by unfold bs; simp [bs_len many span rs]
def af (by' t : Int) (p : Row) : Row := (by' + p.1 * t, p.2)
theorem ofKey_af (b t : Int) (L : List Row) (k : List Nat) : ofKey (L.map (af b t)) k = (ofKey L k).map fun v => b + v * t := by
  unfold ofKey
  rw [List.filter_map, List.map_map, List.map_map]
  rfl
theorem late_af {b t : Int} (ht : t = 1 ∨ t = 2 ∨ t = 3) (span m : Int) (l : List Int) : (late (span * t) (b + m * t) (l.map fun v => b + v * t)).length = (late span m l).length := by
  unfold late
  rw [List.filter_map, List.length_map]
  congr 1
  refine List.filter_congr fun v _ => ?_
  simp only [Function.comp_apply, decide_eq_decide]
  rcases ht with rfl | rfl | rfl <;> omega
theorem lets_af {b t : Int} (ht : t = 1 ∨ t = 2 ∨ t = 3) (many span : Int) (L : List Row) (p : Row) : lets many (span * t) (L.map (af b t)) (af b t p) = lets many span L p := by
  unfold lets
  simp only [af, ofKey_af]
  have e := late_af (b := b) ht span p.1 (ofKey L p.2)
  have e2 := ofKey_af b t L p.2
  rw [e]
theorem words_af {b t : Int} (ht : t = 1 ∨ t = 2 ∨ t = 3) (many span : Int) : ∀ (rs L : List Row) (last last' : Int), (∀ p ∈ rs, (b + p.1 * t < last' ↔ p.1 < last)) → words many (span * t) last' (L.map (af b t)) (rs.map (af b t)) = words many span last L rs
  | [], _, _, _, _ => rfl
  | p :: rs, L, last, last', h => by
    have hp := h p (by simp)
    have hf : (af b t p).1 = b + p.1 * t := rfl
    rw [List.map_cons]
    unfold words
    rw [lets_af ht, hf]
    by_cases q : p.1 < last
    · rw [if_pos (hp.mpr q), if_pos q, words_af ht many span rs L last last' fun r hr => h r (by simp [hr])]
    · rw [if_neg (fun z => q (hp.mp z)), if_neg q]
      have e : put (lets many span L p) (L.map (af b t)) (af b t p) = (put (lets many span L p) L p).map (af b t) := by
        unfold put; split <;> simp
      rw [e, words_af ht many span rs (put (lets many span L p) L p) p.1 (b + p.1 * t) fun r _ => by rcases ht with rfl | rfl | rfl <;> omega]
def fineL : Int → List Row → List Row
  | _, [] => []
  | last, p :: rs => if p.1 < last then fineL last rs else p :: fineL p.1 rs
def Srt : Int → List Row → Prop
  | _, [] => True
  | last, p :: rs => last ≤ p.1 ∧ Srt p.1 rs
theorem Srt.mono {a b : Int} (h : a ≤ b) : ∀ {rs : List Row}, Srt b rs → Srt a rs
  | [], _ => trivial
  | _ :: _, ⟨h1, h2⟩ => ⟨by omega, h2⟩
theorem Srt.filter (f : Row → Bool) : ∀ {rs : List Row} {a : Int}, Srt a rs → Srt a (rs.filter f)
  | [], _, _ => trivial
  | p :: rs, a, ⟨h1, h2⟩ => by
    rw [List.filter_cons]
    split
    · exact ⟨h1, h2.filter f⟩
    · exact (h2.filter f).mono h1
theorem fine_srt : ∀ (rs : List Row) (last : Int), Srt last (fineL last rs)
  | [], _ => trivial
  | p :: rs, last => by
    unfold fineL
    split
    · exact fine_srt rs last
    · exact ⟨by omega, fine_srt rs p.1⟩
theorem fine_sub : ∀ (rs : List Row) (last : Int), ∀ p ∈ fineL last rs, p ∈ rs
  | [], _ => by simp [fineL]
  | p :: rs, last => by
    unfold fineL
    split
    · intro q hq; exact List.mem_cons_of_mem _ (fine_sub rs last q hq)
    · intro q hq
      rcases List.mem_cons.mp hq with rfl | hq
      · simp
      · exact List.mem_cons_of_mem _ (fine_sub rs _ q hq)
theorem fine_len : ∀ (rs : List Row) (last : Int), (fineL last rs).length ≤ rs.length
  | [], _ => by simp [fineL]
  | p :: rs, last => by
    unfold fineL
    split
    · have := fine_len rs last; simp; omega
    · have := fine_len rs p.1; simp; omega
theorem words_srt (many span : Int) : ∀ (rs : List Row) (last : Int) (L : List Row), Srt last rs → words many span last L rs = (bs many span L rs).map some
  | [], _, _, _ => rfl
  | p :: rs, last, L, ⟨h1, h2⟩ => by
    unfold words bs
    rw [if_neg (by omega), words_srt many span rs p.1 _ h2]; rfl
theorem fine_zip (many span : Int) : ∀ (rs : List Row) (last : Int) (L : List Row), ((rs.zip (words many span last L rs)).filter fun q => q.2.isSome).map (·.1) = fineL last rs
  | [], _, _ => rfl
  | p :: rs, last, L => by
    unfold words fineL
    split
    · rw [List.zip_cons_cons, List.filter_cons_of_neg (by simp)]; exact fine_zip many span rs last L
    · rw [List.zip_cons_cons, List.filter_cons_of_pos (by simp), List.map_cons, fine_zip many span rs]
theorem fine_words (many span : Int) : ∀ (rs : List Row) (last : Int) (L : List Row), (words many span last L rs).filter (·.isSome) = (bs many span L (fineL last rs)).map some
  | [], _, _ => rfl
  | p :: rs, last, L => by
    unfold words fineL
    split
    · rw [List.filter_cons_of_neg (by simp)]; exact fine_words many span rs last L
    · unfold bs
      rw [List.filter_cons_of_pos (by simp), List.map_cons, fine_words many span rs]
theorem ofKey_app (L : List Row) (p : Row) (k : List Nat) : ofKey (L ++ [p]) k = if p.2 = k then ofKey L k ++ [p.1] else ofKey L k := by
  unfold ofKey
  rw [List.filter_append]
  by_cases q : p.2 = k
  · rw [if_pos q, List.filter_cons_of_pos (by simp [q])]; simp
  · rw [if_neg q, List.filter_cons_of_neg (by simp [q])]; simp
theorem bs_key (many span : Int) (k : List Nat) : ∀ (rs L L' : List Row), ofKey L k = ofKey L' k → ((rs.zip (bs many span L rs)).filter fun q => q.1.2 == k).map (·.2) = bs many span L' (rs.filter fun p => p.2 == k)
  | [], _, _, _ => rfl
  | p :: rs, L, L', h => by
    rw [show bs many span L (p :: rs) = lets many span L p :: bs many span (put (lets many span L p) L p) rs from rfl, List.zip_cons_cons]
    by_cases q : p.2 = k
    · rw [List.filter_cons_of_pos (by simp [q]), List.filter_cons_of_pos (by simp [q]), List.map_cons]
      have e : lets many span L p = lets many span L' p := by unfold lets; rw [q, h]
      simp only [bs]
      rw [e, bs_key many span k rs _ (put (lets many span L' p) L' p)]
      unfold put
      split
      · rw [ofKey_app, ofKey_app, h]
      · exact h
    · rw [List.filter_cons_of_neg (by simp [q]), List.filter_cons_of_neg (by simp [q])]
      refine bs_key many span k rs _ L' ?_
      unfold put
      split
      · rw [ofKey_app, if_neg q]; exact h
      · exact h
structure Good (many : Nat) (span last : Int) (l : List Int) : Prop where
  srt : ∀ (i j : Nat) (a b : Int), i ≤ j → l[i]? = some a → l[j]? = some b → a ≤ b
  le : ∀ a ∈ l, a ≤ last
  sp : ∀ (i : Nat) (a b : Int), l[i]? = some a → l[i + many]? = some b → span ≤ b - a
theorem Good.up {many : Nat} {span a b : Int} {l : List Int} (G : Good many span a l) (h : a ≤ b) : Good many span b l := ⟨G.srt, fun x hx => by have := G.le x hx; omega, G.sp⟩
theorem Good.app {many : Nat} {span last m : Int} {l : List Int} (G : Good many span last l) (h : last ≤ m) (hs : 0 < span) (hm : 0 < many) (hc : ((late span m l).length : Int) < (many : Int)) : Good many span m (l ++ [m]) := by
  have hle := G.le
  refine ⟨fun i j a b hij e1 e2 => ?_, fun a ha => ?_, fun i a b e1 e2 => ?_⟩
  · by_cases hj : j < l.length
    · rw [List.getElem?_append_left (by omega)] at e1 e2
      exact G.srt i j a b hij e1 e2
    · have hj2 : j < l.length + 1 := by have := (List.getElem?_eq_some_iff.mp e2).1; simpa using this
      have : j = l.length := by omega
      subst this
      simp at e2; subst e2
      by_cases hi : i < l.length
      · rw [List.getElem?_append_left hi] at e1
        have := hle a (List.mem_of_getElem? e1); omega
      · have : i = l.length := by omega
        subst this; simp at e1; omega
  · rcases List.mem_append.mp ha with ha | ha
    · have := hle a ha; omega
    · simp at ha; omega
  · by_cases hj : i + many < l.length
    · rw [List.getElem?_append_left (by omega)] at e1 e2
      exact G.sp i a b e1 e2
    · have hj2 : i + many < l.length + 1 := by have := (List.getElem?_eq_some_iff.mp e2).1; simpa using this
      have hj3 : i + many = l.length := by omega
      rw [hj3] at e2
      simp at e2; subst e2
      rw [List.getElem?_append_left (by omega)] at e1
      rcases Int.lt_or_le (m - a) span with z | z
      · exfalso
        have hall : ∀ v ∈ l.drop i, decide (m - span < v) = true := by
          intro v hv
          obtain ⟨n, hn⟩ := List.getElem?_of_mem hv
          rw [List.getElem?_drop] at hn
          have := G.srt i (i + n) a v (by omega) e1 hn
          simp; omega
        have h1 : (l.drop i).length ≤ (late span m l).length := by
          have e : late span m l = (l.take i).filter (fun v => decide (m - span < v)) ++ (l.drop i).filter (fun v => decide (m - span < v)) := by
            unfold late; rw [← List.filter_append, List.take_append_drop]
          rw [e, List.filter_eq_self.mpr hall]; simp
        rw [List.length_drop] at h1
        omega
      · exact z
def letK (k : List Nat) (rs : List Row) (ws : List Bool) : List Int := ((rs.zip ws).filter fun q => q.1.2 == k && q.2).map (·.1.1)
theorem let_good {many : Nat} {span : Int} (hs : 0 < span) (hm : 0 < many) (k : List Nat) : ∀ (rs : List Row) (last : Int) (L : List Row), Srt last rs → Good many span last (ofKey L k) → ∃ last', Good many span last' (ofKey L k ++ letK k rs (bs many span L rs))
  | [], last, L, _, G => ⟨last, by simpa [letK] using G⟩
  | p :: rs, last, L, ⟨h1, h2⟩, G => by
    unfold bs letK
    rw [List.zip_cons_cons]
    by_cases q : p.2 = k
    · cases hl : lets many span L p with
      | true =>
        rw [List.filter_cons_of_pos (by simp [q]), List.map_cons]
        have e : ofKey (put true L p) k = ofKey L k ++ [p.1] := by simp only [put, if_true]; rw [ofKey_app, if_pos q]
        have hc : ((late span p.1 (ofKey L k)).length : Int) < (many : Int) := by
          unfold lets at hl; rw [q] at hl; simpa using hl
        obtain ⟨l', G'⟩ := let_good hs hm k rs p.1 (put true L p) h2 (by rw [e]; exact G.app h1 hs hm hc)
        rw [e] at G'
        exact ⟨l', by simpa [letK] using G'⟩
      | false =>
        rw [List.filter_cons_of_neg (by simp)]
        exact let_good hs hm k rs p.1 (put false L p) h2 (G.up h1)
    · rw [List.filter_cons_of_neg (by simp [q])]
      have e : ofKey (put (lets many span L p) L p) k = ofKey L k := by
        unfold put; split
        · rw [ofKey_app, if_neg q]
        · rfl
      have := let_good hs hm k rs p.1 (put (lets many span L p) L p) h2 (by rw [e]; exact G.up h1)
      rw [e] at this
      exact this
theorem bs_many {many : Int} (span : Int) : ∀ (rs L : List Row), ((L.length + rs.length : Nat) : Int) ≤ many → bs many span L rs = List.replicate rs.length true
  | [], _, _ => rfl
  | p :: rs, L, h => by
    unfold bs
    have h1 : (late span p.1 (ofKey L p.2)).length ≤ L.length := by
      unfold late ofKey
      have a := List.length_filter_le (fun v => decide (p.1 - span < v)) ((L.filter fun q => q.2 == p.2).map (·.1))
      have b := List.length_filter_le (fun q : Row => q.2 == p.2) L
      simp at a b ⊢; omega
    simp only [List.length_cons] at h
    have e : lets many span L p = true := by unfold lets; simp; omega
    rw [e, bs_many span rs (put true L p) (by simp [put]; omega)]
    simp [List.replicate_succ]
/-! ### the walk -/
theorem getK_put (k k' : DKey) (d : D) : ∀ kvs : List (DKey × D), getK (putD kvs k d) k' = if k' = k then some d else getK kvs k' := by
  have hm : ∀ kvs : List (DKey × D), getK (kvs.map fun p => if p.1 = k then (p.1, d) else p) k' = if k' = k then (if kvs.any (fun p => decide (p.1 = k)) then some d else none) else getK kvs k' := by
    intro kvs
    induction kvs with
    | nil => simp [getK]
    | cons p kvs ih =>
      simp only [getK, List.map_cons, List.find?_cons] at ih ⊢
      by_cases h1 : p.1 = k
      · by_cases h2 : k' = k
        · subst h2; simp [h1]
        · have h3 : ¬ p.1 = k' := fun z => h2 (by rw [← z, h1])
          have h4 : ¬ k = k' := fun z => h2 z.symm
          simp only [h1, h2, h4, if_true, if_false, decide_false, List.any_cons] at ih ⊢
          simpa [h1, h2, h3, h4] using ih
      · by_cases h2 : k' = k
        · subst h2
          simp only [h1, if_false, decide_false, List.any_cons, if_true, Bool.false_or] at ih ⊢
          simpa using ih
        · simp only [h1, h2, if_false] at ih ⊢
          by_cases h3 : p.1 = k'
          · simp [h3]
          · simpa [h3] using ih
  intro kvs
  unfold putD
  split
  · rename_i h
    rw [hm, h]; simp
  · rename_i h
    by_cases h2 : k' = k
    · subst h2
      have hn : kvs.find? (fun p => decide (p.1 = k')) = none := by
        rw [List.find?_eq_none]
        intro p hp z
        exact h (List.any_eq_true.mpr ⟨p, hp, z⟩)
      simp [getK, List.find?_append, hn]
    · have h4 : ¬ k = k' := fun z => h2 z.symm
      simp [getK, List.find?_append, h2, h4]
theorem put_len (k : DKey) (d : D) (kvs : List (DKey × D)) : (putD kvs k d).length ≤ kvs.length + 1 := by
  unfold putD; split <;> simp
theorem get_lt {O : Sto} {i : Nat} {c : Cell} (e : O[i]? = some c) : i < O.length := (List.getElem?_eq_some_iff.mp e).1
abbrev lim (many span now : Int) (t : Nat) : Cell := .ins 1 [(0, .int many), (3, .int span), (4, .ob t), (5, .int now)]
structure LAt (h t : Nat) (many span now : Int) (kvs : List (DKey × D)) (O : Sto) : Prop where
  h : O[h]? = some (lim many span now t)
  t : O[t]? = some (.dic kvs)
structure Kp (h t : Nat) (O O' : Sto) : Prop where
  keep : ∀ i c, i ≠ h → i ≠ t → O[i]? = some c → O'[i]? = some c
  len : O.length ≤ O'.length
theorem a10 : att 1 0 = true := by decide
theorem a13 : att 1 3 = true := by decide
theorem a14 : att 1 4 = true := by decide
theorem a15 : att 1 5 = true := by decide
theorem fall_ok {h t : Nat} {many span now : Int} {kvs : List (DKey × D)} {O : Sto} (A : LAt h t many span now kvs O) (m : Int) (k : List Nat) (hm : m < now) :
    fn_Limit_take [.ob h, .int m, .str k] O = .exc ⟨6, []⟩ O := by
  have Ah := A.h
  simp [Lib.fn_Limit_take, runFn_eq, Lib.B_Limit_take, Ah, a15, getFD, hm, raiseS]
theorem take_ok {h t : Nat} {many span now : Int} {kvs : List (DKey × D)} {O : Sto} (A : LAt h t many span now kvs O) (m : Int) (k : List Nat) (vs : List Int) (hv : (getK kvs (.inr k)).getD (.tup []) = .tup (vs.map D.int)) (hl : vs.length < 1000) (hk : kvs.length < 1000) (hm : now ≤ m) :
    ∃ O', LAt h t many span m (if decide (((late span m vs).length : Int) < many) then putD kvs (.inr k) (.tup ((late span m vs ++ [m]).map D.int)) else kvs) O' ∧ Kp h t O O' ∧
      fn_Limit_take [.ob h, .int m, .str k] O = .ok (.bl (decide (((late span m vs).length : Int) < many))) O' := by
  have hs : sizeLine = 16777216 := sizeLine_nat
  have Ah := A.h
  have At := A.t
  have lh := get_lt Ah
  have lt := get_lt At
  have hne : h ≠ t := by intro e; rw [e, At] at Ah; cases Ah
  have Bh : (O.set h (lim many span m t))[h]? = some (lim many span m t) := List.getElem?_set_self lh
  have Bt : (O.set h (lim many span m t))[t]? = some (.dic kvs) := by rw [List.getElem?_set_ne hne]; exact At
  have Bk : Kp h t O (O.set h (lim many span m t)) := ⟨fun i c h1 h2 e => by rw [List.getElem?_set_ne (Ne.symm h1)]; exact e, by simp⟩
  have e1 : fldS att 5 (varE 0) (varE 1) [some (.ob h), some (.int m), some (.str k), none, none] O = .nx [some (.ob h), some (.int m), some (.str k), none, none] (O.set h (lim many span m t)) := by
    simp [Ah, a15, putFD]
  generalize hO : O.set h (lim many span m t) = P at *
  clear hO
  have lPh := get_lt Bh
  have lPt := get_lt Bt
  have lc := lcL_filter (t := nameG 4) (c := cmpT gtD (varE 4) (op2 subD (varE 1) (fldE att 3 (varE 0)))) (el := varE 4) (st := []) (r := [some (.ob h), some (.int m), some (.str k), none, none]) (O := P)
    D.int D.int (fun v => decide (m - span < v)) rfl vs []
    (fun v hv => ⟨_, rfl, by simp [Bh, a13, getFD], by simp⟩) (by rw [hs]; simp; omega)
  simp only [List.nil_append] at lc
  have hfl : (late span m vs).length ≤ vs.length := List.length_filter_le _ _
  rw [show vs.filter (fun v => decide (m - span < v)) = late span m vs from rfl] at lc
  generalize late span m vs = lt' at lc hfl ⊢
  have e2 : setS 3 (lcE true (seqI (getE2 (fldE att 4 (varE 0)) (varE 2) (tupE nilA))) (nameG 4) (cmpT gtD (varE 4) (op2 subD (varE 1) (fldE att 3 (varE 0)))) (varE 4) [4]) [some (.ob h), some (.int m), some (.str k), none, none] P = .nx [some (.ob h), some (.int m), some (.str k), some (.ob P.length), none] (P ++ [Cell.lst (lt'.map D.int)]) := by
    simp [Bh, a14, getFD, getE2, tyDic, dicOf, Bt, get2D, keyD, hv, wipeR, lc, mkL]
  have e0 : ifS (cmpT ltD (varE 1) (fldE att 5 (varE 0))) (raiseS 6) nilS [some (.ob h), some (.int m), some (.str k), none, none] O = .nx [some (.ob h), some (.int m), some (.str k), none, none] O := by
    simp [Ah, a15, getFD, show ¬ m < now by omega]
  have Ch : ∀ c, (P ++ [c])[h]? = some (lim many span m t) := fun c => by rw [List.getElem?_append_left lPh, Bh]
  have Ct : ∀ c, (P ++ [c])[t]? = some (.dic kvs) := fun c => by rw [List.getElem?_append_left lPt, Bt]
  have Cn : ∀ c, (P ++ [c])[P.length]? = some c := fun c => by simp
  have Ck : ∀ c, Kp h t P (P ++ [c]) := fun c => ⟨fun i d h1 h2 e => by rw [List.getElem?_append_left (get_lt e)]; exact e, by simp⟩
  have tr : ∀ {A B C : Sto}, Kp h t A B → Kp h t B C → Kp h t A C := fun a b => ⟨fun i c h1 h2 e => b.keep i c h1 h2 (a.keep i c h1 h2 e), Nat.le_trans a.len b.len⟩
  by_cases q : (lt'.length : Int) < many
  · rw [show decide ((lt'.length : Int) < many) = true from by simp [q]]
    simp only [if_true]
    have hset : (P ++ [Cell.lst (lt'.map D.int)]).set P.length (.lst ((lt' ++ [m]).map D.int)) = P ++ [Cell.lst ((lt' ++ [m]).map D.int)] := by simp
    refine ⟨(P ++ [Cell.lst ((lt' ++ [m]).map D.int)]).set t (.dic (putD kvs (.inr k) (.tup ((lt' ++ [m]).map D.int)))), ⟨?_, ?_⟩, ?_, ?_⟩
    · rw [List.getElem?_set_ne (Ne.symm hne), Ch]
    · rw [List.getElem?_set_self (by simp; omega)]
    · exact tr Bk (tr (Ck _) ⟨fun i d h1 h2 e => by rw [List.getElem?_set_ne (Ne.symm h2)]; exact e, by simp⟩)
    · have hB : Lib.B_Limit_take [some (.ob h), some (.int m), some (.str k), none, none] O = .ret (.bl true) ((P ++ [Cell.lst ((lt' ++ [m]).map D.int)]).set t (.dic (putD kvs (.inr k) (.tup ((lt' ++ [m]).map D.int))))) := by
        unfold Lib.B_Limit_take
        refine cs_nx e0 (cs_nx e1 (cs_nx e2 ?_))
        have c1 := Ch (.lst (lt'.map D.int))
        have c2 := Cn (.lst (lt'.map D.int))
        refine cs_ret (if_t (O1 := P ++ [Cell.lst (lt'.map D.int)]) ?_ ?_)
        · generalize P ++ [Cell.lst (lt'.map D.int)] = P2 at c1 c2 ⊢
          generalize P.length = pl at c2 ⊢
          simp [lenF, lenD, seqR, listR, listS, c2, c1, a10, getFD, q]
        refine cs_nx (r1 := [some (.ob h), some (.int m), some (.str k), some (.ob P.length), none]) (O1 := P ++ [Cell.lst ((lt' ++ [m]).map D.int)]) ?_ ?_
        · simp [tyLst, listR, listS, appendF, hs, show lt'.length < 16777216 by omega]
        have d1 := Ch (.lst ((lt' ++ [m]).map D.int))
        have d2 := Cn (.lst ((lt' ++ [m]).map D.int))
        have d3 := Ct (.lst ((lt' ++ [m]).map D.int))
        generalize P ++ [Cell.lst ((lt' ++ [m]).map D.int)] = P2 at d1 d2 d3 ⊢
        generalize P.length = pl at d2 ⊢
        generalize (lt' ++ [m]).map D.int = W at d2 ⊢
        simp [tupleF, listR, listS, d2, d1, a14, getFD, stoD, d3, keyD, hs, show kvs.length < 16777216 by omega]
      simp [Lib.fn_Limit_take, runFn_eq, hB]
  · rw [show decide ((lt'.length : Int) < many) = false from by simp [q]]
    simp only [Bool.false_eq_true, if_false]
    refine ⟨P ++ [Cell.lst (lt'.map D.int)], ⟨Ch _, Ct _⟩, tr Bk (Ck _), ?_⟩
    have hB : Lib.B_Limit_take [some (.ob h), some (.int m), some (.str k), none, none] O = .ret (.bl false) (P ++ [Cell.lst (lt'.map D.int)]) := by
      unfold Lib.B_Limit_take
      refine cs_nx e0 (cs_nx e1 (cs_nx e2 ?_))
      have c1 := Ch (.lst (lt'.map D.int))
      have c2 := Cn (.lst (lt'.map D.int))
      generalize P ++ [Cell.lst (lt'.map D.int)] = P2 at c1 c2 ⊢
      generalize P.length = pl at c2 ⊢
      simp [lenF, lenD, seqR, listR, listS, c2, c1, a10, getFD, q]
    simp [Lib.fn_Limit_take, runFn_eq, hB]
structure Led (span now : Int) (n : Nat) (L : List Row) (kvs : List (DKey × D)) : Prop where
  at' : ∀ k, ∃ vs : List Int, (getK kvs (.inr k)).getD (.tup []) = .tup (vs.map D.int) ∧ vs.length ≤ n ∧ ∀ m, now ≤ m → late span m vs = late span m (ofKey L k)
  kl : kvs.length ≤ n
theorem Led.up {span now m : Int} {n : Nat} {L kvs} (G : Led span now n L kvs) (h : now ≤ m) : Led span m (n + 1) L kvs :=
  ⟨fun k => let ⟨vs, h1, h2, h3⟩ := G.at' k; ⟨vs, h1, by omega, fun m' h' => h3 m' (by omega)⟩, by have := G.kl; omega⟩
theorem late2 {span m m' : Int} (h : m ≤ m') (l : List Int) : late span m' (late span m l) = late span m' l := by
  unfold late
  rw [List.filter_filter]
  refine List.filter_congr fun v _ => ?_
  by_cases q : m' - span < v
  · simp [q]; omega
  · simp [q]
theorem Led.put {span now m : Int} {n : Nat} {L kvs} (G : Led span now n L kvs) (h : now ≤ m) (k : List Nat) (vs : List Int) (h1 : vs.length ≤ n) (h2 : ∀ m, now ≤ m → late span m vs = late span m (ofKey L k)) :
    Led span m (n + 1) (L ++ [(m, k)]) (putD kvs (.inr k) (.tup ((late span m vs ++ [m]).map D.int))) := by
  refine ⟨fun z => ?_, by have := put_len (.inr k) (.tup ((late span m vs ++ [m]).map D.int)) kvs; have := G.kl; omega⟩
  by_cases q : z = k
  · subst q
    refine ⟨late span m vs ++ [m], by rw [getK_put]; simp, ?_, fun m' h' => ?_⟩
    · have : (late span m vs).length ≤ vs.length := List.length_filter_le _ _
      simp; omega
    · rw [ofKey_app, if_pos rfl]
      have ea : ∀ (a b : List Int), late span m' (a ++ b) = late span m' a ++ late span m' b := fun a b => List.filter_append ..
      rw [ea, ea, late2 h', h2 m' (by omega)]
  · have hne : ¬ (Sum.inr z : DKey) = .inr k := fun e => q (by injection e)
    obtain ⟨ws, w1, w2, w3⟩ := G.at' z
    refine ⟨ws, by rw [getK_put, if_neg hne]; exact w1, by omega, fun m' h' => ?_⟩
    rw [ofKey_app, if_neg (fun e => q e.symm)]
    exact w3 m' (by omega)
abbrev env1 (many span : Int) (d : D) (b t : Int) (n : Nat) (x7 x8 : Option D) : Rho := [some (.int many), some (.int span), some d, some (.int b), some (.int t), some (.ob n), some (.ob (n + 2)), x7, x8]
theorem takes_loop {many span sp b t : Int} (hm : ∀ x, mulOk x t = true) (d : D) (n : Nat) (st : List (Nat × List D)) (O0 : Sto) (hst : ∀ O', (∀ i c, i < n → O0[i]? = some c → O'[i]? = some c) → stillOk st O' = true) :
    ∀ (rs : List Row) {now : Int} {L : List Row} {kvs : List (DKey × D)} {O : Sto} {acc : List (Option Bool)} {c : Nat} (x7 x8 : Option D), LAt n (n + 1) many sp now kvs O → Led sp now c L kvs → c + rs.length ≤ 900 → acc.length ≤ c →
      O[n + 2]? = some (.lst (acc.map wD)) → (∀ i c, i < n → O0[i]? = some c → O[i]? = some c) →
      ∃ O' y7 y8, forL (tupG 2 (consG (nameG 7) (consG (nameG 8) nilG))) Q__law_takes_1 st (rs.map rowD) (env1 many span d b t n x7 x8) O = .nx (env1 many span d b t n y7 y8) O' ∧
        O'[n + 2]? = some (.lst ((acc ++ words many sp now L (rs.map (af b t))).map wD)) ∧ (∀ i c, i < n → O0[i]? = some c → O'[i]? = some c) ∧ O.length ≤ O'.length
  | [], now, L, kvs, O, acc, c, x7, x8, A, G, hc, ha, h2, hk => ⟨O, x7, x8, by simp [forL, hst O hk], by simpa [words] using h2, hk, Nat.le_refl _⟩
  | p :: rs, now, L, kvs, O, acc, c, x7, x8, A, G, hc, ha, h2, hk => by
    have hs : sizeLine = 16777216 := sizeLine_nat
    simp only [List.length_cons] at hc
    have Ah := A.h
    have hmt := hm p.1
    have hf : (af b t p) = (b + p.1 * t, p.2) := rfl
    have finish : ∀ (w : Option Bool) (now' : Int) (L' : List Row) (kvs' : List (DKey × D)) (O1 : Sto), LAt n (n + 1) many sp now' kvs' O1 → Led sp now' (c + 1) L' kvs' → O1[n + 2]? = some (.lst ((acc ++ [w]).map wD)) → (∀ i c, i < n → O0[i]? = some c → O1[i]? = some c) → O.length ≤ O1.length →
        Q__law_takes_1 (env1 many span d b t n (some (.int p.1)) (some (.str p.2))) O = .nx (env1 many span d b t n (some (.int p.1)) (some (.str p.2))) O1 →
        words many sp now L ((p :: rs).map (af b t)) = w :: words many sp now' L' (rs.map (af b t)) →
        ∃ O' y7 y8, forL (tupG 2 (consG (nameG 7) (consG (nameG 8) nilG))) Q__law_takes_1 st ((p :: rs).map rowD) (env1 many span d b t n x7 x8) O = .nx (env1 many span d b t n y7 y8) O' ∧
          O'[n + 2]? = some (.lst ((acc ++ words many sp now L ((p :: rs).map (af b t))).map wD)) ∧ (∀ i c, i < n → O0[i]? = some c → O'[i]? = some c) ∧ O.length ≤ O'.length := by
      intro w now' L' kvs' O1 A1 G1 e2 k1 l1 eq ew
      obtain ⟨O', y7, y8, e, f1, f2, f3⟩ := takes_loop hm d n st O0 hst rs (acc := acc ++ [w]) (some (.int p.1)) (some (.str p.2)) A1 G1 (by omega) (by simp; omega) e2 k1
      refine ⟨O', y7, y8, ?_, ?_, f2, by omega⟩
      · rw [List.map_cons]
        unfold forL
        have et : tupG 2 (consG (nameG 7) (consG (nameG 8) nilG)) (rowD p) (env1 many span d b t n x7 x8) O = some (env1 many span d b t n (some (.int p.1)) (some (.str p.2)), O) := by simp [rowD]
        simp only [hst O hk, if_true, et, eq]
        exact e
      · rw [ew]; simpa using f1
    have lw : (acc.map wD).length < sizeLine := by rw [hs]; simp; omega
    by_cases q : b + p.1 * t < now
    · have ef := fall_ok A (b + p.1 * t) p.2 q
      refine finish none now L kvs (O.set (n + 2) (.lst ((acc ++ [none]).map wD))) ⟨?_, ?_⟩ ⟨fun k => let ⟨vs, h1, h2, h3⟩ := G.at' k; ⟨vs, h1, by omega, h3⟩, by have := G.kl; omega⟩ ?_ ?_ (by simp) ?_ ?_
      · rw [List.getElem?_set_ne (by omega)]; exact A.h
      · rw [List.getElem?_set_ne (by omega)]; exact A.t
      · rw [List.getElem?_set_self (get_lt h2)]
      · intro i c hi e; rw [List.getElem?_set_ne (by omega)]; exact hk i c hi e
      · have tl : tyLst (.ob (n + 2)) O = true := by simp [tyLst, listR, listS, h2]
        have ea : appendF (.ob (n + 2)) [.non] O = .ok .non (O.set (n + 2) (.lst ((acc ++ [none]).map wD))) := by
          simp only [appendF, h2]; rw [if_pos lw]; simp [wD]
        simp [Q__law_takes_1, tryS, tl, hmt, Ah, ef, ea]
      · rw [List.map_cons, words_cons, if_pos (by rw [hf]; exact q)]
    · obtain ⟨vs, v1, v2, v3⟩ := G.at' p.2
      have hkl := G.kl
      obtain ⟨O1, A1, K1, et⟩ := take_ok A (b + p.1 * t) p.2 vs v1 (by omega) (by omega) (by omega)
      rw [v3 _ (by omega)] at et
      have hl : decide (((late sp (b + p.1 * t) (ofKey L p.2)).length : Int) < many) = lets many sp L (af b t p) := rfl
      rw [hl] at et
      have h21 : O1[n + 2]? = some (.lst (acc.map wD)) := K1.keep (n + 2) _ (by omega) (by omega) h2
      refine finish (some (lets many sp L (af b t p))) (b + p.1 * t) (put (lets many sp L (af b t p)) L (af b t p)) (if lets many sp L (af b t p) then putD kvs (.inr p.2) (.tup ((late sp (b + p.1 * t) vs ++ [b + p.1 * t]).map D.int)) else kvs)
        (O1.set (n + 2) (.lst ((acc ++ [some (lets many sp L (af b t p))]).map wD))) ⟨?_, ?_⟩ ?_ ?_ ?_ ?_ ?_ ?_
      · rw [List.getElem?_set_ne (by omega)]; exact A1.h
      · rw [List.getElem?_set_ne (by omega)]
        have := A1.t
        rw [v3 _ (by omega), hl] at this
        rw [v3 _ (by omega)]
        exact this
      · cases hb : lets many sp L (af b t p) with
        | true =>
          simp only [if_true, Lk36.put]
          exact G.put (by omega) p.2 vs v2 v3
        | false => exact G.up (by omega)
      · rw [List.getElem?_set_self (get_lt h21)]
      · intro i c hi e; rw [List.getElem?_set_ne (by omega)]; exact K1.keep i c (by omega) (by omega) (hk i c hi e)
      · have := K1.len; simp; exact this
      · have tl : tyLst (.ob (n + 2)) O = true := by simp [tyLst, listR, listS, h2]
        have ea : appendF (.ob (n + 2)) [.bl (lets many sp L (af b t p))] O1 = .ok .non (O1.set (n + 2) (.lst ((acc ++ [some (lets many sp L (af b t p))]).map wD))) := by
          simp only [appendF, h21]; rw [if_pos lw]; simp [wD]
        generalize lets many sp L (af b t p) = B at et ea ⊢
        simp [Q__law_takes_1, tryS, tl, hmt, Ah, et, ea]
      · rw [List.map_cons, words_cons, if_neg (by rw [hf]; exact q)]; rfl
/-- rows, in a cell or not -/
structure RAt (d : D) (rs : List Row) (O : Sto) : Prop where
  l : d = .lst (rs.map rowD) ∨ ∃ a, d = .ob a ∧ O[a]? = some (.lst (rs.map rowD))
mutual
theorem eqS_rfl : ∀ d : D, eqS d d = true
  | .non => by simp [eqS]
  | .bl _ => by simp [eqS]
  | .int _ => by simp [eqS]
  | .str _ => by simp [eqS]
  | .tup ds => by simp only [eqS]; exact eqSL_rfl ds
  | .lst ds => by simp only [eqS]; exact eqSL_rfl ds
  | .scr ds => by simp only [eqS]; exact eqSL_rfl ds
  | .ob _ => by simp [eqS]
theorem eqSL_rfl : ∀ ds : List D, eqSL ds ds = true
  | [] => by simp [eqSL]
  | d :: ds => by simp only [eqSL, eqS_rfl d, eqSL_rfl ds, Bool.and_true]
end
theorem RAt.src {d : D} {rs : List Row} {O : Sto} (R : RAt d rs O) (O1 : Sto) (h1 : ∀ i c, i < O.length → O[i]? = some c → O1[i]? = some c) : ∃ st, srcD d O1 = .ok ⟨rs.map rowD, st⟩ O1 ∧ ∀ O', (∀ i c, i < O.length → O[i]? = some c → O'[i]? = some c) → stillOk st O' = true := by
  rcases R.l with rfl | ⟨a, rfl, h⟩
  · exact ⟨[], rfl, fun _ _ => rfl⟩
  · refine ⟨[(a, rs.map rowD)], ?_, fun O' h' => ?_⟩
    · simp [srcD, seqR, listR, listS, h1 a _ (get_lt h) h, stillD]
    · simp [stillOk, h' a _ (get_lt h) h, eqSL_rfl]
theorem init_ok (many span : Int) (O : Sto) : fn_Limit_init [.ob O.length, .int many, .int span] (O ++ [.ins 1 []]) = .ok .non (O ++ [lim many span 0 (O.length + 1), .dic []]) := by
  simp [Lib.fn_Limit_init, runFn_eq, Lib.B_Limit_init, a10, a13, a14, a15, putFD, dic0E]
theorem takes_ok {many span b t : Int} (hm : ∀ x, mulOk x t = true) {d : D} {rs : List Row} {O : Sto} (R : RAt d rs O) (hr : rs.length ≤ 100) :
    ∃ O', (∀ i c, i < O.length → O[i]? = some c → O'[i]? = some c) ∧ O.length ≤ O'.length ∧ O'[O.length + 2]? = some (.lst ((words many (span * t) 0 [] (rs.map (af b t))).map wD)) ∧
      fn__law_takes [.int many, .int span, d, .int b, .int t] O = .ok (.ob (O.length + 2)) O' := by
  have kO : ∀ i c, i < O.length → O[i]? = some c → (O ++ [lim many (span * t) 0 (O.length + 1), .dic [], .lst []])[i]? = some c := fun i c hi e => by rw [List.getElem?_append_left hi]; exact e
  obtain ⟨st, es, hst⟩ := R.src (O ++ [lim many (span * t) 0 (O.length + 1), .dic [], .lst []]) kO
  obtain ⟨O', y7, y8, e, f1, f2, f3⟩ := takes_loop (many := many) (span := span) (sp := span * t) (b := b) (t := t) hm d O.length st O (fun O' h => hst O' h) rs (now := 0) (L := []) (kvs := []) (O := O ++ [lim many (span * t) 0 (O.length + 1), .dic [], .lst []]) (acc := []) (c := 0) none none
    ⟨by simp, by simp⟩ ⟨fun k => ⟨[], rfl, by simp, fun _ _ => rfl⟩, by simp⟩ (by omega) (by simp) (by simp) kO
  refine ⟨O', f2, by simp at f3; omega, by simpa using f1, ?_⟩
  have hmt := hm span
  have ei := init_ok many (span * t) O
  have e1 : parS 5 6 (consA (makeE 1 3 fn_Limit_init (consA (varE 0) (consA (op2 (mulD false) (varE 1) (varE 4)) nilA))) (consA (lstE true nilA) nilA)) [some (.int many), some (.int span), some d, some (.int b), some (.int t), none, none, none, none] O = .nx (env1 many span d b t O.length none none) (O ++ [lim many (span * t) 0 (O.length + 1), .dic [], .lst []]) := by
    simp [parS, makeE, hmt, ei, asNon, mkL]
  have hB : B__law_takes [some (.int many), some (.int span), some d, some (.int b), some (.int t), none, none, none, none] O = .ret (.ob (O.length + 2)) O' := by
    unfold B__law_takes
    refine cs_nx e1 (cs_nx (r1 := env1 many span d b t O.length y7 y8) (O1 := O') ?_ (by simp))
    simp only [ev_forS, ev_seqI, ev_var', List.getElem?_cons_succ, List.getElem?_cons_zero, bind_ok', es, bindS_ok']
    exact e
  simp [fn__law_takes, runFn_eq, hB]
abbrev env2 (many span : Int) (d : D) (n : Nat) (last : Int) (x6 x7 x8 : Option D) : Rho := [some (.int many), some (.int span), some d, some (.ob n), some (.int last), some (.ob (n + 1)), x6, x7, x8, none]
structure Due (n c : Nat) (L : List Row) (kvs : List (DKey × D)) (O : Sto) : Prop where
  h : O[n]? = some (.dic kvs)
  at' : ∀ k, (getK kvs (.inr k)).getD (.lst []) = .lst ((ofKey L k).map D.int)
  kl : kvs.length ≤ c
  ll : L.length ≤ c
theorem ofKey_len (L : List Row) (k : List Nat) : (ofKey L k).length ≤ L.length := by
  unfold ofKey; rw [List.length_map]; exact List.length_filter_le _ _
def D1 : DS0 := (ifS (cmpT ltD (varE 6) (varE 4)) (consS (exprS (bmE tyLst appendF (varE 5) (consA (constE .non) nilA))) contS) nilS)
def D3 : DS0 := (setS 8 (lcE false (seqI (getE2 (varE 3) (varE 7) (lstE false nilA))) (nameG 9) (cmpT gtD (varE 9) (op2 subD (varE 6) (varE 1))) (varE 9) [9]))
def D4 : DS0 := (exprS (bmE tyLst appendF (varE 5) (consA (op2 ltD (callE lenF (consA (varE 8) nilA)) (varE 0)) nilA)))
def D5 : DS0 := (ifS (cmpT ltD (callE lenF (consA (varE 8) nilA)) (varE 0))
    (asgS (subG (varE 3) (varE 7)) (op2 (addD false) (getE2 (varE 3) (varE 7) (lstE false nilA)) (lstE false (consA (varE 6) nilA))))
    nilS)
theorem due1_is : Q__law_due_1 = consS D1 (consS (setS 4 (varE 6)) (consS D3 (consS D4 D5))) := rfl
theorem due_one {many span : Int} (d : D) (n : Nat) {c : Nat} (hc : c ≤ 900) {last : Int} {L : List Row} {kvs : List (DKey × D)} {O : Sto} {acc : List (Option Bool)} (G : Due n c L kvs O) (ha : acc.length ≤ c) (h2 : O[n + 1]? = some (.lst (acc.map wD))) (p : Row) (hp : ¬ p.1 < last) (x8 : Option D) :
    ∃ kvs' O' y8, Due n (c + 1) (put (lets many span L p) L p) kvs' O' ∧ O'[n + 1]? = some (.lst ((acc ++ [some (lets many span L p)]).map wD)) ∧ (∀ i, i < n → O'[i]? = O[i]?) ∧ O.length ≤ O'.length ∧
      Q__law_due_1 (env2 many span d n last (some (.int p.1)) (some (.str p.2)) x8) O = .nx (env2 many span d n p.1 (some (.int p.1)) (some (.str p.2)) y8) O' := by
  have hs : sizeLine = 16777216 := sizeLine_nat
  have Gh := G.h
  have Gk := G.at' p.2
  have Gl := G.kl
  have Gll := G.ll
  have ln := get_lt Gh
  have ln2 := get_lt h2
  have hol := ofKey_len L p.2
  have lc := lcL_filter (t := nameG 9) (c := cmpT gtD (varE 9) (op2 subD (varE 6) (varE 1))) (el := varE 9) (st := []) (r := env2 many span d n p.1 (some (.int p.1)) (some (.str p.2)) x8) (O := O)
    D.int D.int (fun v => decide (p.1 - span < v)) rfl (ofKey L p.2) []
    (fun v hv => ⟨_, rfl, by simp, by simp⟩) (by rw [hs]; simp; omega)
  simp only [List.nil_append] at lc
  rw [show (ofKey L p.2).filter (fun v => decide (p.1 - span < v)) = late span p.1 (ofKey L p.2) from rfl] at lc
  have hb : decide (((late span p.1 (ofKey L p.2)).length : Int) < many) = lets many span L p := rfl
  have hll : (late span p.1 (ofKey L p.2)).length ≤ (ofKey L p.2).length := List.length_filter_le _ _
  have s1 : D1 (env2 many span d n last (some (.int p.1)) (some (.str p.2)) x8) O = .nx (env2 many span d n last (some (.int p.1)) (some (.str p.2)) x8) O := by
    simp [D1, hp]
  have s2 : (setS 4 (varE 6)) (env2 many span d n last (some (.int p.1)) (some (.str p.2)) x8) O = .nx (env2 many span d n p.1 (some (.int p.1)) (some (.str p.2)) x8) O := by simp
  have s3 : D3 (env2 many span d n p.1 (some (.int p.1)) (some (.str p.2)) x8) O = .nx (env2 many span d n p.1 (some (.int p.1)) (some (.str p.2)) (some (.lst ((late span p.1 (ofKey L p.2)).map D.int)))) O := by
    simp [D3, getE2, tyDic, dicOf, Gh, get2D, keyD, Gk, wipeR, lc]
  have lw : (acc.map wD).length < sizeLine := by rw [hs]; simp; omega
  have tl : tyLst (.ob (n + 1)) O = true := by simp [tyLst, listR, listS, h2]
  have ea : appendF (.ob (n + 1)) [.bl (lets many span L p)] O = .ok .non (O.set (n + 1) (.lst ((acc ++ [some (lets many span L p)]).map wD))) := by
    simp only [appendF, h2]; rw [if_pos lw]; simp [wD]
  generalize late span p.1 (ofKey L p.2) = Lt at lc hb hll s3
  have s4 : D4 (env2 many span d n p.1 (some (.int p.1)) (some (.str p.2)) (some (.lst (Lt.map D.int)))) O = .nx (env2 many span d n p.1 (some (.int p.1)) (some (.str p.2)) (some (.lst (Lt.map D.int)))) (O.set (n + 1) (.lst ((acc ++ [some (lets many span L p)]).map wD))) := by
    unfold D4
    simp only [ev_exprS, bmE, ev_var', List.getElem?_cons_succ, List.getElem?_cons_zero, bind_ok', tl, if_true, ev_consA, ev_op2, ev_callE, ev_nilA, len_lst, List.length_map, op_ltI, hb, ea, bindS_ok']
  have h1 : (O.set (n + 1) (.lst ((acc ++ [some (lets many span L p)]).map wD)))[n]? = some (.dic kvs) := by rw [List.getElem?_set_ne (by omega)]; exact Gh
  have h3 : (O.set (n + 1) (.lst ((acc ++ [some (lets many span L p)]).map wD)))[n + 1]? = some (.lst ((acc ++ [some (lets many span L p)]).map wD)) := List.getElem?_set_self ln2
  have k1 : ∀ i, i < n → (O.set (n + 1) (.lst ((acc ++ [some (lets many span L p)]).map wD)))[i]? = O[i]? := fun i hi => by rw [List.getElem?_set_ne (by omega)]
  have l1 : (O.set (n + 1) (.lst ((acc ++ [some (lets many span L p)]).map wD))).length = O.length := by simp
  generalize O.set (n + 1) (.lst ((acc ++ [some (lets many span L p)]).map wD)) = O1 at s4 h1 h3 k1 l1
  rw [due1_is]
  cases hq : lets many span L p with
  | true =>
    rw [hq] at hb h3
    have s5 : D5 (env2 many span d n p.1 (some (.int p.1)) (some (.str p.2)) (some (.lst (Lt.map D.int)))) O1 = .nx (env2 many span d n p.1 (some (.int p.1)) (some (.str p.2)) (some (.lst (Lt.map D.int)))) (O1.set n (.dic (putD kvs (.inr p.2) (.lst ((ofKey L p.2 ++ [p.1]).map D.int))))) := by
      have hb' : (Lt.length : Int) < many := by simpa using hb
      simp [D5, hb', getE2, tyDic, dicOf, h1, get2D, keyD, Gk, hs, stoD, show (ofKey L p.2).length + 1 ≤ 16777216 by omega, show kvs.length < 16777216 by omega]
    refine ⟨putD kvs (.inr p.2) (.lst ((ofKey L p.2 ++ [p.1]).map D.int)), _, _, ⟨?_, ?_, ?_, ?_⟩, ?_, ?_, ?_, cs_nx s1 (cs_nx s2 (cs_nx s3 (cs_nx s4 s5)))⟩
    · rw [List.getElem?_set_self (by omega)]
    · intro k
      simp only [put, if_true]
      rw [getK_put, ofKey_app]
      by_cases z : k = p.2
      · subst z; simp
      · have hne : ¬ (Sum.inr k : DKey) = .inr p.2 := fun e => z (by injection e)
        rw [if_neg hne, if_neg (fun e => z e.symm)]; exact G.at' k
    · have := put_len (.inr p.2) (.lst ((ofKey L p.2 ++ [p.1]).map D.int)) kvs; omega
    · simp [put]; omega
    · rw [List.getElem?_set_ne (by omega)]; exact h3
    · intro i hi; rw [List.getElem?_set_ne (by omega)]; exact k1 i hi
    · simp; omega
  | false =>
    rw [hq] at hb h3
    have s5 : D5 (env2 many span d n p.1 (some (.int p.1)) (some (.str p.2)) (some (.lst (Lt.map D.int)))) O1 = .nx (env2 many span d n p.1 (some (.int p.1)) (some (.str p.2)) (some (.lst (Lt.map D.int)))) O1 := by
      have hb' : ¬ (Lt.length : Int) < many := by simpa using hb
      simp [D5, hb']
    exact ⟨kvs, O1, _, ⟨h1, G.at', by omega, by simp [put]; omega⟩, h3, k1, by omega, cs_nx s1 (cs_nx s2 (cs_nx s3 (cs_nx s4 s5)))⟩
theorem due_loop {many span : Int} (d : D) (n : Nat) (st : List (Nat × List D)) (O0 : Sto) (hst : ∀ O', (∀ i c, i < n → O0[i]? = some c → O'[i]? = some c) → stillOk st O' = true) :
    ∀ (rs : List Row) {last : Int} {L : List Row} {kvs : List (DKey × D)} {O : Sto} {acc : List (Option Bool)} {c : Nat} (x6 x7 x8 : Option D), Due n c L kvs O → c + rs.length ≤ 900 → acc.length ≤ c →
      O[n + 1]? = some (.lst (acc.map wD)) → (∀ i c, i < n → O0[i]? = some c → O[i]? = some c) →
      ∃ O' y4 y6 y7 y8, forL (tupG 2 (consG (nameG 6) (consG (nameG 7) nilG))) Q__law_due_1 st (rs.map rowD) (env2 many span d n last x6 x7 x8) O = .nx (env2 many span d n y4 y6 y7 y8) O' ∧
        O'[n + 1]? = some (.lst ((acc ++ words many span last L rs).map wD)) ∧ (∀ i c, i < n → O0[i]? = some c → O'[i]? = some c) ∧ O.length ≤ O'.length
  | [], last, L, kvs, O, acc, c, x6, x7, x8, G, hc, ha, h2, hk => ⟨O, last, x6, x7, x8, by simp [forL, hst O hk], by simpa [words] using h2, hk, Nat.le_refl _⟩
  | p :: rs, last, L, kvs, O, acc, c, x6, x7, x8, G, hc, ha, h2, hk => by
    have hs : sizeLine = 16777216 := sizeLine_nat
    simp only [List.length_cons] at hc
    have et : tupG 2 (consG (nameG 6) (consG (nameG 7) nilG)) (rowD p) (env2 many span d n last x6 x7 x8) O = some (env2 many span d n last (some (.int p.1)) (some (.str p.2)) x8, O) := by simp [rowD]
    by_cases q : p.1 < last
    · have lw : (acc.map wD).length < sizeLine := by rw [hs]; simp; omega
      have tl : tyLst (.ob (n + 1)) O = true := by simp [tyLst, listR, listS, h2]
      have ea : appendF (.ob (n + 1)) [.non] O = .ok .non (O.set (n + 1) (.lst ((acc ++ [none]).map wD))) := by
        simp only [appendF, h2]; rw [if_pos lw]; simp [wD]
      have eq : Q__law_due_1 (env2 many span d n last (some (.int p.1)) (some (.str p.2)) x8) O = .ct (env2 many span d n last (some (.int p.1)) (some (.str p.2)) x8) (O.set (n + 1) (.lst ((acc ++ [none]).map wD))) := by
        rw [due1_is]
        simp [D1, q, tl, ea]
      obtain ⟨O', y4, y6, y7, y8, e, f1, f2, f3⟩ := due_loop d n st O0 hst rs (last := last) (acc := acc ++ [none]) (c := c + 1) (some (.int p.1)) (some (.str p.2)) x8
        (O := O.set (n + 1) (.lst ((acc ++ [none]).map wD))) ⟨by rw [List.getElem?_set_ne (by omega)]; exact G.h, G.at', by have := G.kl; omega, by have := G.ll; omega⟩ (by omega) (by simp; omega) (by rw [List.getElem?_set_self (get_lt h2)])
        (fun i c hi e => by rw [List.getElem?_set_ne (by omega)]; exact hk i c hi e)
      refine ⟨O', y4, y6, y7, y8, ?_, ?_, f2, by simpa using f3⟩
      · rw [List.map_cons]
        unfold forL
        simp only [hst O hk, if_true, et, eq]
        exact e
      · rw [words_cons, if_pos q]; simpa using f1
    · obtain ⟨kvs', O1, z8, G1, e2, k1, l1, eq⟩ := due_one (many := many) (span := span) d n (by omega) G ha h2 p q x8
      obtain ⟨O', y4, y6, y7, y8, e, f1, f2, f3⟩ := due_loop d n st O0 hst rs (last := p.1) (acc := acc ++ [some (lets many span L p)]) (c := c + 1) (some (.int p.1)) (some (.str p.2)) z8 G1 (by omega) (by simp; omega) e2
        (fun i c hi e => by rw [k1 i hi]; exact hk i c hi e)
      refine ⟨O', y4, y6, y7, y8, ?_, ?_, f2, by omega⟩
      · rw [List.map_cons]
        unfold forL
        simp only [hst O hk, if_true, et, eq]
        exact e
      · rw [words_cons, if_neg q]; simpa using f1
theorem due_ok {many span : Int} {d : D} {rs : List Row} {O : Sto} (R : RAt d rs O) (hr : rs.length ≤ 100) :
    ∃ O', (∀ i c, i < O.length → O[i]? = some c → O'[i]? = some c) ∧ O.length ≤ O'.length ∧ O'[O.length + 1]? = some (.lst ((words many span 0 [] rs).map wD)) ∧
      fn__law_due [.int many, .int span, d] O = .ok (.ob (O.length + 1)) O' := by
  have kO : ∀ i c, i < O.length → O[i]? = some c → (O ++ [.dic [], .lst []])[i]? = some c := fun i c hi e => by rw [List.getElem?_append_left hi]; exact e
  obtain ⟨st, es, hst⟩ := R.src (O ++ [.dic [], .lst []]) kO
  obtain ⟨O', y4, y6, y7, y8, e, f1, f2, f3⟩ := due_loop (many := many) (span := span) d O.length st O (fun O' h => hst O' h) rs (last := 0) (L := []) (kvs := []) (O := O ++ [.dic [], .lst []]) (acc := []) (c := 0) none none none
    ⟨by simp, fun k => rfl, by simp, by simp⟩ (by omega) (by simp) (by simp) kO
  refine ⟨O', f2, by simp at f3; omega, by simpa using f1, ?_⟩
  have e1 : parS3 3 4 5 (consA dic0E (consA (constE (.int 0)) (consA (lstE true nilA) nilA))) [some (.int many), some (.int span), some d, none, none, none, none, none, none, none] O = .nx (env2 many span d O.length 0 none none none) (O ++ [.dic [], .lst []]) := by
    simp [parS3, dic0E, mkL]
  have hB : B__law_due [some (.int many), some (.int span), some d, none, none, none, none, none, none, none] O = .ret (.ob (O.length + 1)) O' := by
    unfold B__law_due
    refine cs_nx e1 (cs_nx (r1 := env2 many span d O.length y4 y6 y7 y8) (O1 := O') ?_ (by simp))
    simp only [ev_forS, ev_seqI, ev_var', List.getElem?_cons_succ, List.getElem?_cons_zero, bind_ok', es, bindS_ok']
    exact e
  simp [fn__law_due, runFn_eq, hB]
/-! ### the law -/
theorem okN_lst {n : Nat} {ds : List D} (h : ∀ d ∈ ds, okN n d = true) : okN (n + 1) (.lst ds) = true := by
  have := okN_tup h
  simp only [okN, pure', toPy, PyData.canLay0, dep] at this ⊢
  exact this
theorem wD_ok (w : Option Bool) : okN 1 (wD w) = true := by
  cases w with
  | none => exact okN_non
  | some b => exact okN_bl b
theorem ok_ws (ws : List (Option Bool)) : okD (.lst (ws.map wD)) = true := okD_of (n := 2) (by omega) (okN_lst fun d hd => by
  obtain ⟨w, _, rfl⟩ := List.mem_map.mp hd
  exact wD_ok w)
theorem ne_un {a b : D} {O : Sto} {ws : List (Option Bool)} (ha : unob a O = .lst (ws.map wD)) (hb : unob b O = .lst (ws.map wD)) (hq : quick a b = false) : neD a b O = .ok (.bl false) O := by
  have h1 := ok_ws ws
  have h2 : eqv (.lst (ws.map wD)) (.lst (ws.map wD)) = true := eqv_rfl _ (by simp only [okD, Bool.and_eq_true] at h1; exact h1.1)
  unfold neD
  rw [hq, ha, hb, h1, h2]
  simp
theorem un_ob {g : Nat} {X : List D} {O : Sto} (h : O[g]? = some (.lst X)) : unob (.ob g) O = .lst X := by simp [unob, h]
structure Ex (O O' : Sto) : Prop where
  keep : ∀ (i : Nat) (c : Cell), O[i]? = some c → O'[i]? = some c
  len : O.length ≤ O'.length
theorem Ex.refl (O : Sto) : Ex O O := ⟨fun _ _ e => e, Nat.le_refl _⟩
theorem Ex.trans {O O' O'' : Sto} (a : Ex O O') (b : Ex O' O'') : Ex O O'' := ⟨fun i c e => b.keep i c (a.keep i c e), Nat.le_trans a.len b.len⟩
theorem takes_w {many span b t : Int} (ht : t = 1 ∨ t = 2 ∨ t = 3) (hb : 0 ≤ b) {d : D} {rs : List Row} {O : Sto} (R : RAt d rs O) (hr : rs.length ≤ 100) (h0 : ∀ p ∈ rs, 0 ≤ p.1) :
    ∃ O' g, Ex O O' ∧ O'[g]? = some (.lst ((words many span 0 [] rs).map wD)) ∧ fn__law_takes [.int many, .int span, d, .int b, .int t] O = .ok (.ob g) O' := by
  obtain ⟨O', k, l, e, f⟩ := takes_ok (many := many) (span := span) (b := b) (t := t) (fun x => by rcases ht with rfl | rfl | rfl <;> simp [mulOk]) R hr
  have hw := words_af (b := b) ht many span rs [] 0 0 (fun p hp => by have := h0 p hp; rcases ht with rfl | rfl | rfl <;> omega)
  rw [List.map_nil] at hw
  rw [hw] at e
  exact ⟨O', _, ⟨fun i c e => k i c (get_lt e) e, l⟩, e, f⟩
theorem RAt.ex {d : D} {rs : List Row} {O O' : Sto} (R : RAt d rs O) (E : Ex O O') : RAt d rs O' := ⟨by
  rcases R.l with h | ⟨a, h1, h2⟩
  · exact .inl h
  · exact .inr ⟨a, h1, E.keep a _ h2⟩⟩
def KEYS : List (List Nat) := [[97], [98], []]
theorem row_ok (ns : List Int) {O : Sto} {t a : Nat} (ht : t < 100000) (hT : TownAt O t) (ha0 : a ≠ 0) {rs : List Row} (ha : O[a]? = some (.lst (rs.map rowD))) (hr : rs.length ≤ 100) (x2 x7 : Option D) {many span m : Int} (hs1 : 0 < span) (T : Rho) :
    ∃ (p : Row) (O' : Sto), 0 ≤ p.1 ∧ TownAt O' (t + 2) ∧ O'.length = O.length ∧ O'[a]? = some (.lst ((rs ++ [p]).map rowD)) ∧
      Q_law_1 (some (.scr (ns.map D.int)) :: some (.ob 0) :: x2 :: some (.int many) :: some (.int span) :: some (.int m) :: some (.ob a) :: x7 :: T) O = .nx (some (.scr (ns.map D.int)) :: some (.ob 0) :: x2 :: some (.int many) :: some (.int span) :: some (.int p.1) :: some (.ob a) :: x7 :: T) O' := by
  have hs : sizeLine = 16777216 := sizeLine_nat
  obtain ⟨d, O1, hd, e1, T1, F1⟩ := pick_ok ns (O := O) (t := t) (ds := [.int 0, .int 0, .int 1, .int 2, .int (span / 2), .int span, .int (-1)]) (by simp) (by omega) hT
  have hd' : ∃ v, d = .int v := by
    simp only [List.mem_cons, List.not_mem_nil, or_false] at hd
    rcases hd with rfl | rfl | rfl | rfl | rfl | rfl | rfl <;> exact ⟨_, rfl⟩
  obtain ⟨v, rfl⟩ := hd'
  obtain ⟨d2, O2, hd2, e2, T2, F2⟩ := pick_ok ns (O := O1) (t := t + 1) (ds := [.str [97], .str [98], .str []]) (by simp) (by omega) T1
  have hd2' : ∃ k, d2 = .str k := by
    simp only [List.mem_cons, List.not_mem_nil, or_false] at hd2
    rcases hd2 with rfl | rfl | rfl <;> exact ⟨_, rfl⟩
  obtain ⟨k, rfl⟩ := hd2'
  have h1 : O1[a]? = some (.lst (rs.map rowD)) := by rw [F1.at' a ha0]; exact ha
  have h2 : O2[a]? = some (.lst (rs.map rowD)) := by rw [F2.at' a ha0]; exact h1
  have l2 := get_lt h2
  generalize hM : (if m + v > 0 then m + v else 0) = M
  refine ⟨(M, k), O2.set a (.lst ((rs ++ [(M, k)]).map rowD)), ?_, ?_, ?_, ?_, ?_⟩
  · show (0 : Int) ≤ M
    rw [← hM]; split <;> omega
  · unfold TownAt at T2 ⊢
    rw [List.getElem?_set_ne ha0]; exact T2
  · simp [F2.len, F1.len]
  · rw [List.getElem?_set_self l2]
  unfold Q_law_1
  refine cs_nx (r1 := some (.scr (ns.map D.int)) :: some (.ob 0) :: x2 :: some (.int many) :: some (.int span) :: some (.int (m + v)) :: some (.ob a) :: x7 :: T) (O1 := O1) ?_ ?_
  · simp [e1, hs]
  refine cs_nx (r1 := some (.scr (ns.map D.int)) :: some (.ob 0) :: x2 :: some (.int many) :: some (.int span) :: some (.int M) :: some (.ob a) :: x7 :: T) (O1 := O1) ?_ ?_
  · simp [max2F, ← hM]
  have tl : tyLst (.ob a) O1 = true := by simp [tyLst, listR, listS, h1]
  have ea : appendF (.ob a) [rowD (M, k)] O2 = .ok .non (O2.set a (.lst ((rs ++ [(M, k)]).map rowD))) := by
    simp only [appendF, h2]; rw [if_pos (by rw [hs]; simp; omega)]; simp
  have ea' : appendF (.ob a) [.tup [.int M, .str k]] O2 = .ok .non (O2.set a (.lst ((rs ++ [(M, k)]).map rowD))) := ea
  simp [tl, e2, hs, ea']
theorem zip_is {α β : Type} (f : α → D) (g : β → D) : ∀ (as : List α) (bs : List β), zipD (as.map f) (bs.map g) = (as.zip bs).map fun q => D.tup [f q.1, g q.2]
  | [], _ => by simp [zipD]
  | _ :: _, [] => by simp [zipD]
  | a :: as, b :: bs => by simp [zipD, zip_is f g as bs]
abbrev env5 (s : D) (x2 : Option D) (many : Nat) (span : Int) (x5 x6 x7 x8 : Option D) (fn : List Row) (x10 x11 : Option D) (B : List Bool) (x13 x14 x15 x16 x17 x18 x19 : Option D) : Rho :=
  [some s, some (.ob 0), x2, some (.int many), some (.int span), x5, x6, x7, x8, some (.lst (fn.map rowD)), x10, x11, some (.lst (B.map D.bl)), x13, x14, x15, x16, x17, x18, x19]
theorem at_ok (s : D) (x2 : Option D) (many : Nat) (span : Int) (x5 x6 x7 x8 : Option D) (fn : List Row) (x10 x11 : Option D) (B : List Bool) (x13 x14 x15 : Option D) (l : List Int) (x17 x18 x19 : Option D) (O : Sto) {last : Int} (G : Good many span last l) (hl : l.length ≤ 1000) (hm : many ≤ 1000) :
    ∃ y19, forS (callI range1F (consA (op2 subD (callE lenF (consA (varE 16) nilA)) (varE 3)) nilA)) (nameG 19) Q_law_2 (env5 s x2 many span x5 x6 x7 x8 fn x10 x11 B x13 x14 x15 (some (.lst (l.map D.int))) x17 x18 x19) O =
      .nx (env5 s x2 many span x5 x6 x7 x8 fn x10 x11 B x13 x14 x15 (some (.lst (l.map D.int))) x17 x18 y19) O := by
  have lp := forL_inv (t := nameG 19) (b := Q_law_2) (st := []) (fun i r O' => O' = O ∧ ∃ y19, r = env5 s x2 many span x5 x6 x7 x8 fn x10 x11 B x13 x14 x15 (some (.lst (l.map D.int))) x17 x18 y19)
    (items := rangeD 0 ((l.length : Int) - many)) (k := 0) (r := env5 s x2 many span x5 x6 x7 x8 fn x10 x11 B x13 x14 x15 (some (.lst (l.map D.int))) x17 x18 x19) (O := O) (by
      rintro i d r O' hi ⟨rfl, y19, rfl⟩
      unfold rangeD at hi
      rw [List.getElem?_map] at hi
      have hlt : i < ((l.length : Int) - many - 0).toNat := by
        rcases Nat.lt_or_ge i ((l.length : Int) - many - 0).toNat with z | z
        · exact z
        · rw [List.getElem?_eq_none (by simpa using z)] at hi; cases hi
      rw [List.getElem?_range hlt] at hi
      simp at hi
      subst hi
      have w1 : i < l.length := by omega
      have w2 : i + many < l.length := by omega
      have sp := G.sp i l[i] l[i + many] (List.getElem?_eq_getElem w1) (List.getElem?_eq_getElem w2)
      have g1 : getI (l.map D.int) (i : Int) = some (.int l[i]) := by rw [getI_lit i (by simpa using w1)]; simp
      have g2 : getI (l.map D.int) ((i : Int) + many) = some (.int l[i + many]) := by
        rw [show ((i : Int) + many) = ((i + many : Nat) : Int) from by omega, getI_lit (i + many) (by simpa using w2)]; simp
      refine ⟨rfl, env5 s x2 many span x5 x6 x7 x8 fn x10 x11 B x13 x14 x15 (some (.lst (l.map D.int))) x17 x18 (some (.int i)), O', env5 s x2 many span x5 x6 x7 x8 fn x10 x11 B x13 x14 x15 (some (.lst (l.map D.int))) x17 x18 (some (.int i)), O', by simp, .inl (by
        have hn : ¬ (l[i + many] - l[i] < span) := by omega
        generalize l[i + many] = u at g2 hn
        generalize l[i] = w at g1 hn
        simp [Q_law_2, g1, g2, hn]), rfl, _, rfl⟩) ⟨rfl, _, rfl⟩ (fun _ _ _ => rfl)
  obtain ⟨r', O', e, rfl, y19, rfl⟩ := lp
  refine ⟨y19, ?_⟩
  have hf : fits ((l.length : Int) - many) = true := by simp [fits]; omega
  simp [hf, e]
theorem key_ok (s : D) (x2 : Option D) {many : Nat} {span : Int} (hm0 : 0 < many) (hm : many ≤ 5) (hs0 : 0 < span) (x5 x6 x7 x8 : Option D) (fn : List Row) (hf : Srt 0 fn) (hl : fn.length ≤ 100) (hp : ∀ p ∈ fn, 0 ≤ p.1) (x10 x11 : Option D) (k : List Nat) (x14 x15 x16 x17 x18 x19 : Option D) (O : Sto) :
    ∃ O' y14 y15 y16 y17 y18 y19, Ex O O' ∧ Q_law_3 (env5 s x2 many span x5 x6 x7 x8 fn x10 x11 (bs many span [] fn) (some (.str k)) x14 x15 x16 x17 x18 x19) O =
      .nx (env5 s x2 many span x5 x6 x7 x8 fn x10 x11 (bs many span [] fn) (some (.str k)) y14 y15 y16 y17 y18 y19) O' := by
  have hs : sizeLine = 16777216 := sizeLine_nat
  have hBl := bs_len many span fn []
  have hkey := bs_key many span k fn [] [] rfl
  obtain ⟨last, G⟩ := let_good (many := many) hs0 hm0 k fn 0 [] hf ⟨fun i j a b _ e => by simp [ofKey] at e, fun a h => by simp [ofKey] at h, fun i a b e => by simp [ofKey] at e⟩
  have G' : Good many span last (letK k fn (bs many span [] fn)) := by simpa [ofKey] using G
  clear G
  have hz : (fn.zip (bs many span [] fn)).length ≤ 100 := by rw [List.length_zip]; omega
  have hlk : (letK k fn (bs many span [] fn)).length ≤ 100 := by
    unfold letK; rw [List.length_map]; have := List.length_filter_le (fun q : Row × Bool => q.1.2 == k && q.2) (fn.zip (bs many span [] fn)); omega
  generalize hB : bs many span [] fn = B at *
  have lc1 := lcL_filter (t := nameG 10) (c := cmpT eqD (op2 ixD (varE 10) (constE (.int 1))) (varE 13)) (el := varE 10) (st := []) (r := env5 s x2 many span x5 x6 x7 x8 fn none x11 B (some (.str k)) x14 x15 x16 x17 x18 x19) (O := O)
    rowD rowD (fun p => p.2 == k) rfl fn []
    (fun p hp => ⟨_, rfl, by simp [rowD], by simp⟩) (by rw [hs]; simp; omega)
  have lc2 := lcL_filter (t := tupG 2 (consG (nameG 10) (consG (nameG 11) nilG))) (c := cmpT eqD (op2 ixD (varE 10) (constE (.int 1))) (varE 13)) (el := varE 11) (st := []) (r := env5 s x2 many span x5 x6 x7 x8 fn none none B (some (.str k)) (some (.lst ((fn.filter fun p => p.2 == k).map rowD))) x15 x16 x17 x18 x19) (O := O)
    (fun q : Row × Bool => D.tup [rowD q.1, D.bl q.2]) (fun q => D.bl q.2) (fun q => q.1.2 == k) rfl (fn.zip B) []
    (fun p hp => ⟨_, rfl, by simp [rowD], by simp⟩) (by rw [hs]; simp; omega)
  rw [show (fun q : Row × Bool => D.bl q.2) = D.bl ∘ (fun q : Row × Bool => q.2) from rfl, ← List.map_map, hkey] at lc2
  have hfs := hf.filter (fun p : Row => p.2 == k)
  have hfl : (fn.filter fun p => p.2 == k).length ≤ fn.length := List.length_filter_le _ _
  have hw := words_srt many span (fn.filter fun p => p.2 == k) 0 [] hfs
  obtain ⟨O1, g, E1, eg, et⟩ := takes_w (many := many) (span := span) (b := 0) (t := 1) (d := .lst ((fn.filter fun p => p.2 == k).map rowD)) (rs := fn.filter fun p => p.2 == k) (O := O) (.inl rfl) (by omega) ⟨.inl rfl⟩ (by omega) (fun p h => hp p (List.mem_filter.mp h).1)
  rw [hw, List.map_map, show wD ∘ some = D.bl from rfl] at eg
  have hne : neD (.ob g) (.lst ((bs many span [] (fn.filter fun p => p.2 == k)).map D.bl)) O1 = .ok (.bl false) O1 := by
    refine ne_un (ws := (bs many span [] (fn.filter fun p => p.2 == k)).map some) ?_ ?_ rfl
    · rw [List.map_map, show wD ∘ some = D.bl from rfl]; exact un_ob eg
    · rw [List.map_map, show wD ∘ some = D.bl from rfl]; rfl
  generalize (fn.filter fun p => p.2 == k).map rowD = SM at lc1 lc2 et
  generalize (bs many span [] (fn.filter fun p => p.2 == k)).map D.bl = DH at lc2 hne eg
  have lc3 := lcL_filter (t := tupG 2 (consG (tupG 2 (consG (nameG 17) (consG (nameG 18) nilG))) (consG (nameG 11) nilG))) (c := andT (cmpT eqD (varE 18) (varE 13)) (truT (varE 11))) (el := varE 17) (st := []) (r := env5 s x2 many span x5 x6 x7 x8 fn x10 none B (some (.str k)) (some (.lst SM)) (some (.lst DH)) x16 none none x19) (O := O1)
    (fun q : Row × Bool => D.tup [rowD q.1, D.bl q.2]) (fun q => D.int q.1.1) (fun q => q.1.2 == k && q.2) rfl (fn.zip B) []
    (fun p hp => ⟨_, by simp [rowD]; rfl, by cases z : (p.1.2 == k) <;> simp [z], by simp⟩) (by rw [hs]; simp; omega)
  have hlt : ((fn.zip B).filter fun q => q.1.2 == k && q.2).map (fun q => D.int q.1.1) = (letK k fn B).map D.int := by unfold letK; rw [List.map_map]; rfl
  rw [hlt] at lc3
  obtain ⟨y19, ea⟩ := at_ok s x2 many span x5 x6 x7 x8 fn x10 x11 B (some (.str k)) (some (.lst SM)) (some (.lst DH)) (letK k fn B) x17 x18 x19 O1 G' (by omega) (by omega)
  have hzip : zipD (fn.map rowD) (B.map D.bl) = (fn.zip B).map fun q => D.tup [rowD q.1, D.bl q.2] := zip_is rowD D.bl fn B
  simp only [List.nil_append] at lc1 lc2 lc3
  refine ⟨O1, some (.lst SM), some (.lst DH), some (.lst ((letK k fn B).map D.int)), x17, x18, y19, E1, ?_⟩
  unfold Q_law_3
  refine cs_nx (r1 := env5 s x2 many span x5 x6 x7 x8 fn x10 x11 B (some (.str k)) (some (.lst SM)) x15 x16 x17 x18 x19) (O1 := O) ?_ ?_
  · simp [wipeR, lc1]
  refine cs_nx (r1 := env5 s x2 many span x5 x6 x7 x8 fn x10 x11 B (some (.str k)) (some (.lst SM)) (some (.lst DH)) x16 x17 x18 x19) (O1 := O) ?_ ?_
  · simp [zipF, listR, listS, stillD, hzip, wipeR, lc2]
  refine cs_nx (r1 := env5 s x2 many span x5 x6 x7 x8 fn x10 x11 B (some (.str k)) (some (.lst SM)) (some (.lst DH)) x16 x17 x18 x19) (O1 := O1) ?_ ?_
  · simp [et, hne]
  refine cs_nx (r1 := env5 s x2 many span x5 x6 x7 x8 fn x10 x11 B (some (.str k)) (some (.lst SM)) (some (.lst DH)) (some (.lst ((letK k fn B).map D.int))) x17 x18 x19) (O1 := O1) ?_ ?_
  · simp [zipF, listR, listS, stillD, hzip, wipeR, lc3]
  exact ea
theorem keys_ok (s : D) (x2 : Option D) {many : Nat} {span : Int} (hm0 : 0 < many) (hm : many ≤ 5) (hs0 : 0 < span) (x5 x6 x7 x8 : Option D) (fn : List Row) (hf : Srt 0 fn) (hl : fn.length ≤ 100) (hp : ∀ p ∈ fn, 0 ≤ p.1) (x10 x11 x13 x14 x15 x16 x17 x18 x19 : Option D) (O : Sto) :
    ∃ O' y13 y14 y15 y16 y17 y18 y19, Ex O O' ∧ forS (seqI (tupE (consA (constE (.str [97])) (consA (constE (.str [98])) (consA (constE (.str [])) nilA))))) (nameG 13) Q_law_3 (env5 s x2 many span x5 x6 x7 x8 fn x10 x11 (bs many span [] fn) x13 x14 x15 x16 x17 x18 x19) O =
      .nx (env5 s x2 many span x5 x6 x7 x8 fn x10 x11 (bs many span [] fn) y13 y14 y15 y16 y17 y18 y19) O' := by
  have hs : sizeLine = 16777216 := sizeLine_nat
  have lp := forL_inv (t := nameG 13) (b := Q_law_3) (st := []) (fun i r O' => Ex O O' ∧ ∃ y13 y14 y15 y16 y17 y18 y19, r = env5 s x2 many span x5 x6 x7 x8 fn x10 x11 (bs many span [] fn) y13 y14 y15 y16 y17 y18 y19)
    (items := [.str [97], .str [98], .str []]) (k := 0) (r := env5 s x2 many span x5 x6 x7 x8 fn x10 x11 (bs many span [] fn) x13 x14 x15 x16 x17 x18 x19) (O := O) (by
      rintro i d r O1 hi ⟨E, y13, y14, y15, y16, y17, y18, y19, rfl⟩
      have hd : ∃ k, d = .str k := by
        have := List.mem_of_getElem? hi
        simp only [List.mem_cons, List.not_mem_nil, or_false] at this
        rcases this with rfl | rfl | rfl <;> exact ⟨_, rfl⟩
      obtain ⟨k, rfl⟩ := hd
      obtain ⟨O2, z14, z15, z16, z17, z18, z19, E2, e⟩ := key_ok s x2 hm0 hm hs0 x5 x6 x7 x8 fn hf hl hp x10 x11 k y14 y15 y16 y17 y18 y19 O1
      exact ⟨rfl, env5 s x2 many span x5 x6 x7 x8 fn x10 x11 (bs many span [] fn) (some (.str k)) y14 y15 y16 y17 y18 y19, O1, _, O2, rfl, .inl e, E.trans E2, _, _, _, _, _, _, _, rfl⟩)
    ⟨Ex.refl O, _, _, _, _, _, _, _, rfl⟩ (fun _ _ _ => rfl)
  obtain ⟨r', O', e, E, y13, y14, y15, y16, y17, y18, y19, rfl⟩ := lp
  exact ⟨O', y13, y14, y15, y16, y17, y18, y19, E, by simp [hs, e]⟩
abbrev env6 (s : D) (x2 : Option D) (many : Nat) (span : Int) (x5 : Option D) (a : Nat) (x7 x8 : Option D) (T : Rho) : Rho :=
  some s :: some (.ob 0) :: x2 :: some (.int many) :: some (.int span) :: x5 :: some (.ob a) :: x7 :: x8 :: T
/-- what is checked -/
def CK : DS0 := (consS (setS 8 (fnE 5 fn__law_takes (consA (varE 3) (consA (varE 4) (consA (varE 6) (consA (constE (.int 0)) (consA (constE (.int 1)) nilA)))))))
    (consS (ifS (orT (cmpT neD (varE 8) (fnE 3 fn__law_due (consA (varE 3) (consA (varE 4) (consA (varE 6) nilA))))) (cmpT neD (fnE 5 fn__law_takes (consA (varE 3) (consA (varE 4) (consA (varE 6) (consA (constE (.int 1000)) (consA (constE (.int 1)) nilA)))))) (varE 8)))
    (retS (constE (.bl false)))
    nilS)
    (consS (ifS (orT (cmpT neD (fnE 5 fn__law_takes (consA (varE 3) (consA (varE 4) (consA (varE 6) (consA (constE (.int 0)) (consA (constE (.int 2)) nilA)))))) (varE 8)) (cmpT neD (fnE 5 fn__law_takes (consA (varE 3) (consA (varE 4) (consA (varE 6) (consA (constE (.int 77)) (consA (constE (.int 3)) nilA)))))) (varE 8)))
    (retS (constE (.bl false)))
    nilS)
    (consS (setS 9 (lcE false (callI zipF (consA (varE 6) (consA (varE 8) nilA))) (tupG 2 (consG (nameG 10) (consG (nameG 11) nilG))) (cmpT notNoneD (varE 11) (constE .non)) (varE 10) [10, 11]))
    (consS (setS 12 (lcE false (seqI (varE 8)) (nameG 11) (cmpT notNoneD (varE 11) (constE .non)) (varE 11) [11]))
    (consS (ifS (cmpT neD (fnE 5 fn__law_takes (consA (varE 3) (consA (varE 4) (consA (varE 9) (consA (constE (.int 0)) (consA (constE (.int 1)) nilA)))))) (varE 12))
    (retS (constE (.bl false)))
    nilS)
    (consS (forS (seqI (tupE (consA (constE (.str [97])) (consA (constE (.str [98])) (consA (constE (.str [])) nilA))))) (nameG 13)
    Q_law_3)
    (ifS (cmpT neD (fnE 5 fn__law_takes (consA (constE (.int 99)) (consA (varE 4) (consA (varE 9) (consA (constE (.int 0)) (consA (constE (.int 1)) nilA)))))) (op2 (mulD false) (lstE false (consA (constE (.bl true)) nilA)) (callE lenF (consA (varE 9) nilA))))
    (retS (constE (.bl false)))
    nilS))))))))
theorem q4_is : Q_law_4 = (consS (parS 3 4 (consA (op2 (addD false) (constE (.int 1)) (fnE 3 fn__law_draw (consA (varE 0) (consA (varE 1) (consA (constE (.int 5)) nilA))))) (consA (op2 (addD false) (constE (.int 1)) (fnE 3 fn__law_draw (consA (varE 0) (consA (varE 1) (consA (constE (.int 60)) nilA))))) nilA)))
    (consS (parS 5 6 (consA (constE (.int 0)) (consA (lstE true nilA) nilA)))
    (consS (forS (callI range1F (consA (constE (.int 30)) nilA)) (nameG 7)
    Q_law_1) CK))) := rfl
theorem mul_true (n : Nat) (hn : n ≤ 1000) (O : Sto) : mulD false (.lst [.bl true]) (.int n) O = .ok (.lst ((List.replicate n true).map D.bl)) O := by
  have hs : sizeLine = 16777216 := sizeLine_nat
  have h1 : (-9223372036854775808 : Int) ≤ (n : Int) := by omega
  have h2 : (n : Int) < 9223372036854775808 := by omega
  have h3 : n ≤ 16777216 := by omega
  simp only [mulD, listS, hs, List.length_singleton, Int.toNat_natCast, Nat.one_mul, h1, h2, h3, decide_true, Bool.and_true, if_true, mkL, List.map_replicate, List.flatten_replicate_singleton, Bool.false_eq_true, if_false]
theorem isn (w : Option Bool) : (!isND (wD w)) = w.isSome := by cases w <;> rfl
theorem S7_ok (s : D) (x2 : Option D) (many span : Int) (x5 x7 : Option D) {a g1 : Nat} {rs : List Row} {ws : List (Option Bool)} {O5 : Sto} (a5 : O5[a]? = some (.lst (rs.map rowD))) (b5 : O5[g1]? = some (.lst (ws.map wD))) (hl : rs.length ≤ 90) (x9 x10 x11 x12 x13 x14 x15 x16 x17 x18 x19 : Option D) :
    setS 9 (lcE false (callI zipF (consA (varE 6) (consA (varE 8) nilA))) (tupG 2 (consG (nameG 10) (consG (nameG 11) nilG))) (cmpT notNoneD (varE 11) (constE .non)) (varE 10) [10, 11])
      [some s, some (.ob 0), x2, some (.int many), some (.int span), x5, some (.ob a), x7, some (.ob g1), x9, x10, x11, x12, x13, x14, x15, x16, x17, x18, x19] O5 =
    .nx [some s, some (.ob 0), x2, some (.int many), some (.int span), x5, some (.ob a), x7, some (.ob g1), some (.lst ((((rs.zip ws).filter fun q => q.2.isSome).map (·.1)).map rowD)), x10, x11, x12, x13, x14, x15, x16, x17, x18, x19] O5 := by
  have hs : sizeLine = 16777216 := sizeLine_nat
  have lz : zipD (rs.map rowD) (ws.map wD) = (rs.zip ws).map fun q => D.tup [rowD q.1, wD q.2] := zip_is rowD wD _ _
  have hst : stillOk [(a, rs.map rowD), (g1, ws.map wD)] O5 = true := by simp [stillOk, a5, b5, eqSL_rfl]
  have hz : (rs.zip ws).length ≤ 100 := by rw [List.length_zip]; omega
  have lc1 := lcL_filter (t := tupG 2 (consG (nameG 10) (consG (nameG 11) nilG))) (c := cmpT notNoneD (varE 11) (constE .non)) (el := varE 10) (st := [(a, rs.map rowD), (g1, ws.map wD)]) (r := [some s, some (.ob 0), x2, some (.int many), some (.int span), x5, some (.ob a), x7, some (.ob g1), x9, none, none, x12, x13, x14, x15, x16, x17, x18, x19]) (O := O5)
    (fun q : Row × Option Bool => D.tup [rowD q.1, wD q.2]) (fun q => rowD q.1) (fun q => q.2.isSome) hst (rs.zip ws) []
    (fun p hp => ⟨_, rfl, by simp [isn], by simp⟩) (by rw [hs]; simp; omega)
  rw [show (fun q : Row × Option Bool => rowD q.1) = rowD ∘ (fun q : Row × Option Bool => q.1) from rfl, ← List.map_map] at lc1
  simp only [List.nil_append] at lc1
  generalize (((rs.zip ws).filter fun q => q.2.isSome).map (·.1)).map rowD = FR at lc1 ⊢
  simp [zipF, listR, listS, a5, b5, stillD, lz, wipeR, lc1]
theorem S8_ok (s : D) (x2 : Option D) (many span : Int) (x5 x6 x7 : Option D) {g1 : Nat} {ws : List (Option Bool)} {O5 : Sto} (b5 : O5[g1]? = some (.lst (ws.map wD))) (hl : ws.length ≤ 90) (x9 x10 x11 x12 x13 x14 x15 x16 x17 x18 x19 : Option D) :
    setS 12 (lcE false (seqI (varE 8)) (nameG 11) (cmpT notNoneD (varE 11) (constE .non)) (varE 11) [11])
      [some s, some (.ob 0), x2, some (.int many), some (.int span), x5, x6, x7, some (.ob g1), x9, x10, x11, x12, x13, x14, x15, x16, x17, x18, x19] O5 =
    .nx [some s, some (.ob 0), x2, some (.int many), some (.int span), x5, x6, x7, some (.ob g1), x9, x10, x11, some (.lst ((ws.filter fun w => w.isSome).map wD)), x13, x14, x15, x16, x17, x18, x19] O5 := by
  have hs : sizeLine = 16777216 := sizeLine_nat
  have hst2 : stillOk [(g1, ws.map wD)] O5 = true := by simp [stillOk, b5, eqSL_rfl]
  have lc2 := lcL_filter (t := nameG 11) (c := cmpT notNoneD (varE 11) (constE .non)) (el := varE 11) (st := [(g1, ws.map wD)]) (r := [some s, some (.ob 0), x2, some (.int many), some (.int span), x5, x6, x7, some (.ob g1), x9, x10, none, x12, x13, x14, x15, x16, x17, x18, x19]) (O := O5)
    wD wD (fun w => w.isSome) hst2 ws []
    (fun p hp => ⟨_, rfl, by simp [isn], by simp⟩) (by rw [hs]; simp; omega)
  simp only [List.nil_append] at lc2
  generalize (ws.filter fun w => w.isSome).map wD = FR at lc2 ⊢
  simp [srcD, seqR, listR, listS, b5, stillD, wipeR, lc2]
theorem mulE_ok (s : D) (x2 : Option D) (many span : Int) (x5 x6 x7 x8 : Option D) (FR TR : List D) (O8 : Sto) (hmul : mulD false (.lst [.bl true]) (.int FR.length) O8 = .ok (.lst TR) O8) (x10 x11 x12 x13 x14 x15 x16 x17 x18 x19 : Option D) :
    (op2 (mulD false) (lstE false (consA (constE (.bl true)) nilA)) (callE lenF (consA (varE 9) nilA)))
     [some s, some (.ob 0), x2, some (.int many), some (.int span), x5, x6, x7, x8, some (.lst FR), x10, x11, x12, x13, x14, x15, x16, x17, x18, x19] O8 = .ok (.lst TR) O8 := by
  have hs : sizeLine = 16777216 := sizeLine_nat
  have e1 : lstE false (consA (constE (.bl true)) nilA) [some s, some (.ob 0), x2, some (.int many), some (.int span), x5, x6, x7, x8, some (.lst FR), x10, x11, x12, x13, x14, x15, x16, x17, x18, x19] O8 = .ok (.lst [.bl true]) O8 := by simp [hs]
  have e2 : callE lenF (consA (varE 9) nilA) [some s, some (.ob 0), x2, some (.int many), some (.int span), x5, x6, x7, x8, some (.lst FR), x10, x11, x12, x13, x14, x15, x16, x17, x18, x19] O8 = .ok (.int FR.length) O8 := by simp
  rw [ev_op2, e1, bind_ok', e2, bind_ok']; exact hmul
theorem takE_ok (s : D) (x2 : Option D) (many span : Int) (x5 x6 x7 x8 : Option D) (FR TR : List D) (O7 O8 : Sto) (g8 : Nat) (et8 : fn__law_takes [.int 99, .int span, .lst FR, .int 0, .int 1] O7 = .ok (.ob g8) O8) (x10 x11 x12 x13 x14 x15 x16 x17 x18 x19 : Option D) :
    (fnE 5 fn__law_takes (consA (constE (.int 99)) (consA (varE 4) (consA (varE 9) (consA (constE (.int 0)) (consA (constE (.int 1)) nilA)))))) [some s, some (.ob 0), x2, some (.int many), some (.int span), x5, x6, x7, x8, some (.lst FR), x10, x11, x12, x13, x14, x15, x16, x17, x18, x19] O7 = .ok (.ob g8) O8 := by
  simp [et8]
theorem last_ok (s : D) (x2 : Option D) (many span : Int) (x5 x6 x7 x8 : Option D) (FR TR : List D) (O7 O8 : Sto) (g8 : Nat) (et8 : fn__law_takes [.int 99, .int span, .lst FR, .int 0, .int 1] O7 = .ok (.ob g8) O8) (hmul : mulD false (.lst [.bl true]) (.int FR.length) O8 = .ok (.lst TR) O8) (n8 : neD (.ob g8) (.lst TR) O8 = .ok (.bl false) O8) (x10 x11 x12 x13 x14 x15 x16 x17 x18 x19 : Option D) :
    (ifS (cmpT neD (fnE 5 fn__law_takes (consA (constE (.int 99)) (consA (varE 4) (consA (varE 9) (consA (constE (.int 0)) (consA (constE (.int 1)) nilA)))))) (op2 (mulD false) (lstE false (consA (constE (.bl true)) nilA)) (callE lenF (consA (varE 9) nilA))))
    (retS (constE (.bl false)))
    nilS) [some s, some (.ob 0), x2, some (.int many), some (.int span), x5, x6, x7, x8, some (.lst FR), x10, x11, x12, x13, x14, x15, x16, x17, x18, x19] O7 = .nx [some s, some (.ob 0), x2, some (.int many), some (.int span), x5, x6, x7, x8, some (.lst FR), x10, x11, x12, x13, x14, x15, x16, x17, x18, x19] O8 := by
  have e1 := takE_ok s x2 many span x5 x6 x7 x8 FR TR O7 O8 g8 et8 x10 x11 x12 x13 x14 x15 x16 x17 x18 x19
  have e2 := mulE_ok s x2 many span x5 x6 x7 x8 FR TR O8 hmul x10 x11 x12 x13 x14 x15 x16 x17 x18 x19
  refine if_f (O1 := O8) ?_ rfl
  rw [ev_cmpT, e1, bind_ok', e2, bind_ok', n8]
  rfl
theorem ck_ok (s : D) (x2 : Option D) {many : Nat} {span : Int} (hm0 : 0 < many) (hm : many ≤ 5) (hs0 : 0 < span) (x5 x7 : Option D) {a : Nat} {rs : List Row} {O : Sto} (ha : O[a]? = some (.lst (rs.map rowD))) (hl : rs.length ≤ 90) (hp : ∀ p ∈ rs, 0 ≤ p.1) (x8 x9 x10 x11 x12 x13 x14 x15 x16 x17 x18 x19 : Option D) :
    ∃ O' y8 y9 y12 y13 y14 y15 y16 y17 y18 y19, Ex O O' ∧ CK [some s, some (.ob 0), x2, some (.int many), some (.int span), x5, some (.ob a), x7, x8, x9, x10, x11, x12, x13, x14, x15, x16, x17, x18, x19] O =
      .nx [some s, some (.ob 0), x2, some (.int many), some (.int span), x5, some (.ob a), x7, y8, y9, x10, x11, y12, y13, y14, y15, y16, y17, y18, y19] O' := by
  have hs : sizeLine = 16777216 := sizeLine_nat
  have R : RAt (.ob a) rs O := ⟨.inr ⟨a, rfl, ha⟩⟩
  obtain ⟨O1, g1, E1, eg1, et1⟩ := takes_w (many := many) (span := span) (b := 0) (t := 1) (.inl rfl) (by omega) R (by omega) hp
  obtain ⟨O2, k2, l2, eg2, et2⟩ := due_ok (many := many) (span := span) (R.ex E1) (by omega)
  have E2 : Ex O1 O2 := ⟨fun i c e => k2 i c (get_lt e) e, l2⟩
  generalize O1.length + 1 = g2 at eg2 et2
  obtain ⟨O3, g3, E3, eg3, et3⟩ := takes_w (many := many) (span := span) (b := 1000) (t := 1) (.inl rfl) (by omega) ((R.ex E1).ex E2) (by omega) hp
  obtain ⟨O4, g4, E4, eg4, et4⟩ := takes_w (many := many) (span := span) (b := 0) (t := 2) (.inr (.inl rfl)) (by omega) (((R.ex E1).ex E2).ex E3) (by omega) hp
  obtain ⟨O5, g5, E5, eg5, et5⟩ := takes_w (many := many) (span := span) (b := 77) (t := 3) (.inr (.inr rfl)) (by omega) ((((R.ex E1).ex E2).ex E3).ex E4) (by omega) hp
  have hfs := fine_srt rs 0
  have hfl := fine_len rs 0
  have hfp : ∀ p ∈ fineL 0 rs, 0 ≤ p.1 := fun p h => hp p (fine_sub rs 0 p h)
  have fz := fine_zip many span rs 0 []
  have fw := fine_words many span rs 0 []
  have hwl := words_len many span rs 0 []
  obtain ⟨O6, g6, E6, eg6, et6⟩ := takes_w (many := many) (span := span) (b := 0) (t := 1) (d := .lst ((fineL 0 rs).map rowD)) (rs := fineL 0 rs) (O := O5) (.inl rfl) (by omega) ⟨.inl rfl⟩ (by omega) hfp
  rw [words_srt many span _ 0 [] hfs, List.map_map, show wD ∘ some = D.bl from rfl] at eg6
  have b2 := E2.keep _ _ eg1
  have b3 := E3.keep _ _ b2
  have b4 := E4.keep _ _ b3
  have b5 := E5.keep _ _ b4
  have a5 := E5.keep _ _ (E4.keep _ _ (E3.keep _ _ (E2.keep _ _ (E1.keep _ _ ha))))
  have n2 : neD (.ob g1) (.ob g2) O2 = .ok (.bl false) O2 := ne_un (un_ob b2) (un_ob eg2) rfl
  have n3 : neD (.ob g3) (.ob g1) O3 = .ok (.bl false) O3 := ne_un (un_ob eg3) (un_ob b3) rfl
  have n4 : neD (.ob g4) (.ob g1) O4 = .ok (.bl false) O4 := ne_un (un_ob eg4) (un_ob b4) rfl
  have n5 : neD (.ob g5) (.ob g1) O5 = .ok (.bl false) O5 := ne_un (un_ob eg5) (un_ob b5) rfl
  have n6 : neD (.ob g6) (.lst ((bs many span [] (fineL 0 rs)).map D.bl)) O6 = .ok (.bl false) O6 := by
    refine ne_un (ws := (bs many span [] (fineL 0 rs)).map some) ?_ ?_ rfl
    · rw [List.map_map, show wD ∘ some = D.bl from rfl]; exact un_ob eg6
    · rw [List.map_map, show wD ∘ some = D.bl from rfl]; rfl
  clear eg2 eg3 eg4 eg5 eg6 b2 b3 b4 eg1
  obtain ⟨O7, y13, y14, y15, y16, y17, y18, y19, E7, et7⟩ := keys_ok s x2 hm0 hm hs0 x5 (some (.ob a)) x7 (some (.ob g1)) (fineL 0 rs) hfs (by omega) hfp x10 x11 x13 x14 x15 x16 x17 x18 x19 O6
  obtain ⟨O8, g8, E8, eg8, et8⟩ := takes_w (many := 99) (span := span) (b := 0) (t := 1) (d := .lst ((fineL 0 rs).map rowD)) (rs := fineL 0 rs) (O := O7) (.inl rfl) (by omega) ⟨.inl rfl⟩ (by omega) hfp
  rw [words_srt 99 span _ 0 [] hfs, List.map_map, show wD ∘ some = D.bl from rfl, bs_many span (fineL 0 rs) [] (by simp; omega)] at eg8
  have n8 : neD (.ob g8) (.lst ((List.replicate (fineL 0 rs).length true).map D.bl)) O8 = .ok (.bl false) O8 := by
    refine ne_un (ws := (List.replicate (fineL 0 rs).length true).map some) ?_ ?_ rfl
    · rw [List.map_map, show wD ∘ some = D.bl from rfl]; exact un_ob eg8
    · rw [List.map_map, show wD ∘ some = D.bl from rfl]; rfl
  have hmul := mul_true (fineL 0 rs).length (by omega) O8
  have s7 := S7_ok s x2 many span x5 x7 a5 b5 hl x9 x10 x11 x12 x13 x14 x15 x16 x17 x18 x19
  rw [fz] at s7
  have s8 := S8_ok s x2 many span x5 (some (.ob a)) x7 b5 (by omega) (some (.lst ((fineL 0 rs).map rowD))) x10 x11 x12 x13 x14 x15 x16 x17 x18 x19
  rw [fw, List.map_map, show wD ∘ some = D.bl from rfl] at s8
  refine ⟨O8, some (.ob g1), some (.lst ((fineL 0 rs).map rowD)), some (.lst ((bs many span [] (fineL 0 rs)).map D.bl)), y13, y14, y15, y16, y17, y18, y19, E1.trans (E2.trans (E3.trans (E4.trans (E5.trans (E6.trans (E7.trans E8)))))), ?_⟩
  unfold CK
  refine cs_nx (r1 := [some s, some (.ob 0), x2, some (.int many), some (.int span), x5, some (.ob a), x7, some (.ob g1), x9, x10, x11, x12, x13, x14, x15, x16, x17, x18, x19]) (O1 := O1) (by simp [et1]) ?_
  refine cs_nx (r1 := [some s, some (.ob 0), x2, some (.int many), some (.int span), x5, some (.ob a), x7, some (.ob g1), x9, x10, x11, x12, x13, x14, x15, x16, x17, x18, x19]) (O1 := O3) (by simp [et2, et3, n2, n3]) ?_
  refine cs_nx (r1 := [some s, some (.ob 0), x2, some (.int many), some (.int span), x5, some (.ob a), x7, some (.ob g1), x9, x10, x11, x12, x13, x14, x15, x16, x17, x18, x19]) (O1 := O5) (by simp [et4, et5, n4, n5]) ?_
  refine cs_nx s7 (cs_nx s8 ?_)
  refine cs_nx (r1 := [some s, some (.ob 0), x2, some (.int many), some (.int span), x5, some (.ob a), x7, some (.ob g1), some (.lst ((fineL 0 rs).map rowD)), x10, x11, some (.lst ((bs many span [] (fineL 0 rs)).map D.bl)), x13, x14, x15, x16, x17, x18, x19]) (O1 := O6) (by simp [et6, n6]) ?_
  refine cs_nx et7 ?_
  refine last_ok s x2 many span x5 (some (.ob a)) x7 (some (.ob g1)) ((fineL 0 rs).map rowD) _ O7 O8 g8 et8 ?_ n8 x10 x11 _ y13 y14 y15 y16 y17 y18 y19
  rw [List.length_map]
  exact hmul
theorem block_ok (ns : List Int) {O : Sto} {t : Nat} (ht : t < 90000) (hT : TownAt O t) (x2 x3 x4 x5 x6 x7 x8 x9 x10 x11 x12 x13 x14 x15 x16 x17 x18 x19 : Option D) :
    ∃ O' y3 y4 y5 y6 y7 y8 y9 y12 y13 y14 y15 y16 y17 y18 y19, TownAt O' (t + 62) ∧ Q_law_4 [some (.scr (ns.map D.int)), some (.ob 0), x2, x3, x4, x5, x6, x7, x8, x9, x10, x11, x12, x13, x14, x15, x16, x17, x18, x19] O =
      .nx [some (.scr (ns.map D.int)), some (.ob 0), x2, y3, y4, y5, y6, y7, y8, y9, x10, x11, y12, y13, y14, y15, y16, y17, y18, y19] O' := by
  obtain ⟨v1, O1, a1, b1, e1, T1, F1⟩ := draw_ok ns (m := 5) (by omega) (by omega) hT
  obtain ⟨v2, O2, a2, b2, e2, T2, F2⟩ := draw_ok ns (m := 60) (by omega) (by omega) T1
  obtain ⟨many, hmany⟩ : ∃ n : Nat, 1 + v1 = n := ⟨(1 + v1).toNat, by omega⟩
  have s1 : (parS 3 4 (consA (op2 (addD false) (constE (.int 1)) (fnE 3 fn__law_draw (consA (varE 0) (consA (varE 1) (consA (constE (.int 5)) nilA))))) (consA (op2 (addD false) (constE (.int 1)) (fnE 3 fn__law_draw (consA (varE 0) (consA (varE 1) (consA (constE (.int 60)) nilA))))) nilA))) [some (.scr (ns.map D.int)), some (.ob 0), x2, x3, x4, x5, x6, x7, x8, x9, x10, x11, x12, x13, x14, x15, x16, x17, x18, x19] O =
      .nx [some (.scr (ns.map D.int)), some (.ob 0), x2, some (.int many), some (.int (1 + v2)), x5, x6, x7, x8, x9, x10, x11, x12, x13, x14, x15, x16, x17, x18, x19] O2 := by
    simp [parS, e1, e2, hmany]
  have s2 : (parS 5 6 (consA (constE (.int 0)) (consA (lstE true nilA) nilA))) [some (.scr (ns.map D.int)), some (.ob 0), x2, some (.int many), some (.int (1 + v2)), x5, x6, x7, x8, x9, x10, x11, x12, x13, x14, x15, x16, x17, x18, x19] O2 =
      .nx [some (.scr (ns.map D.int)), some (.ob 0), x2, some (.int many), some (.int (1 + v2)), some (.int 0), some (.ob O2.length), x7, x8, x9, x10, x11, x12, x13, x14, x15, x16, x17, x18, x19] (O2 ++ [.lst []]) := by
    simp [parS]
  have l2 : 0 < O2.length := get_lt (show O2[0]? = _ from T2)
  have T3 : TownAt (O2 ++ [.lst []]) (t + 1 + 1) := by unfold TownAt at T2 ⊢; rw [List.getElem?_append_left l2]; exact T2
  have h3 : (O2 ++ [Cell.lst []])[O2.length]? = some (.lst ([].map rowD)) := by simp
  generalize O2.length = a at s2 h3 l2
  generalize O2 ++ [Cell.lst []] = O3 at s2 h3 T3
  have lp := forL_inv (t := nameG 7) (b := Q_law_1) (st := []) (fun i r O => ∃ (m : Int) (x7 : Option D) (rs : List Row), TownAt O (t + 2 + 2 * i) ∧ O[a]? = some (.lst (rs.map rowD)) ∧ rs.length = i ∧ (∀ p ∈ rs, 0 ≤ p.1) ∧ r = [some (.scr (ns.map D.int)), some (.ob 0), x2, some (.int many), some (.int (1 + v2)), some (.int m), some (.ob a), x7, x8, x9, x10, x11, x12, x13, x14, x15, x16, x17, x18, x19])
    (items := rangeD 0 30) (k := 0) (r := [some (.scr (ns.map D.int)), some (.ob 0), x2, some (.int many), some (.int (1 + v2)), some (.int 0), some (.ob a), x7, x8, x9, x10, x11, x12, x13, x14, x15, x16, x17, x18, x19]) (O := O3) (by
      rintro i d r O hi ⟨m, x7, rs, hT, ha, hl, hp, rfl⟩
      have hlt : i < 30 := by
        have := (List.getElem?_eq_some_iff.mp hi).1
        simpa [rangeD] using this
      obtain ⟨p, O', p0, T', _, ha', e⟩ := row_ok ns (by omega) hT (by omega) ha (by omega) x2 (some d) (many := many) (span := 1 + v2) (m := m) (by omega) [x8, x9, x10, x11, x12, x13, x14, x15, x16, x17, x18, x19]
      refine ⟨rfl, [some (.scr (ns.map D.int)), some (.ob 0), x2, some (.int many), some (.int (1 + v2)), some (.int m), some (.ob a), some d, x8, x9, x10, x11, x12, x13, x14, x15, x16, x17, x18, x19], O, _, O', rfl, .inl e, p.1, _, rs ++ [p], ?_, ha', by simp; omega, ?_, rfl⟩
      · rw [show t + 2 + 2 * (0 + i + 1) = t + 2 + 2 * (0 + i) + 2 from by omega]; exact T'
      · intro q hq
        rcases List.mem_append.mp hq with hq | hq
        · exact hp q hq
        · simp at hq; rw [hq]; exact p0)
    ⟨0, _, [], T3, h3, rfl, by simp, rfl⟩ (fun _ _ _ => rfl)
  obtain ⟨r', O4, e4, m, y7, rs, T4, ha, hl, hp, rfl⟩ := lp
  have hl' : rs.length = 30 := by rw [hl]; simp [rangeD]
  obtain ⟨O5, y8, y9, y12, y13, y14, y15, y16, y17, y18, y19, E5, e5⟩ := ck_ok (.scr (ns.map D.int)) x2 (many := many) (span := 1 + v2) (by omega) (by omega) (by omega) (some (.int m)) y7 ha (by omega) hp x8 x9 x10 x11 x12 x13 x14 x15 x16 x17 x18 x19
  refine ⟨O5, some (.int many), some (.int (1 + v2)), some (.int m), some (.ob a), y7, y8, y9, y12, y13, y14, y15, y16, y17, y18, y19, ?_, ?_⟩
  · have h30 : (0 + (rangeD 0 30).length) = 30 := by simp [rangeD]
    rw [h30] at T4
    exact E5.keep 0 _ T4
  rw [q4_is]
  refine cs_nx s1 (cs_nx s2 (cs_nx (r1 := [some (.scr (ns.map D.int)), some (.ob 0), x2, some (.int many), some (.int (1 + v2)), some (.int m), some (.ob a), y7, x8, x9, x10, x11, x12, x13, x14, x15, x16, x17, x18, x19]) (O1 := O4) ?_ e5))
  have hf : fits 30 = true := by simp [fits]
  simp [hf, e4]
theorem main (ns : List Int) (h : ns.length ≤ 63) : ∃ O, fn_law [.scr (ns.map D.int)] [] = .ok (.bl true) O := by
  have hs : sizeLine = 16777216 := sizeLine_nat
  have lp := forL_inv (t := nameG 2) (b := Q_law_4) (st := []) (fun i r O => TownAt O (62 * i) ∧ ∃ x2 x3 x4 x5 x6 x7 x8 x9 x10 x11 x12 x13 x14 x15 x16 x17 x18 x19, r = [some (.scr (ns.map D.int)), some (.ob 0), x2, x3, x4, x5, x6, x7, x8, x9, x10, x11, x12, x13, x14, x15, x16, x17, x18, x19])
    (items := rangeD 0 4) (k := 0) (r := [some (.scr (ns.map D.int)), some (.ob 0), none, none, none, none, none, none, none, none, none, none, none, none, none, none, none, none, none, none]) (O := [.lst []]) (by
      rintro i d r O hi ⟨hT, x2, x3, x4, x5, x6, x7, x8, x9, x10, x11, x12, x13, x14, x15, x16, x17, x18, x19, rfl⟩
      have hlt : i < 4 := by
        have := (List.getElem?_eq_some_iff.mp hi).1
        simpa [rangeD] using this
      obtain ⟨O', y3, y4, y5, y6, y7, y8, y9, y12, y13, y14, y15, y16, y17, y18, y19, T', e⟩ := block_ok ns (by omega) hT (some d) x3 x4 x5 x6 x7 x8 x9 x10 x11 x12 x13 x14 x15 x16 x17 x18 x19
      refine ⟨rfl, [some (.scr (ns.map D.int)), some (.ob 0), some d, x3, x4, x5, x6, x7, x8, x9, x10, x11, x12, x13, x14, x15, x16, x17, x18, x19], O, _, O', rfl, .inl e, ?_, _, _, _, _, _, _, _, _, _, _, _, _, _, _, _, _, _, _, rfl⟩
      rw [show 62 * (0 + i + 1) = 62 * (0 + i) + 62 from by omega]; exact T')
    ⟨rfl, _, _, _, _, _, _, _, _, _, _, _, _, _, _, _, _, _, _, rfl⟩ (fun _ _ _ => rfl)
  obtain ⟨r', O', e, _, x2, x3, x4, x5, x6, x7, x8, x9, x10, x11, x12, x13, x14, x15, x16, x17, x18, x19, rfl⟩ := lp
  refine ⟨O', ?_⟩
  have hf : fits 4 = true := by simp [fits]
  have hB : B_law [some (.scr (ns.map D.int)), none, none, none, none, none, none, none, none, none, none, none, none, none, none, none, none, none, none, none] [] = .ret (.bl true) O' := by
    unfold B_law
    refine cs_nx (r1 := [some (.scr (ns.map D.int)), some (.ob 0), none, none, none, none, none, none, none, none, none, none, none, none, none, none, none, none, none, none]) (O1 := [.lst []]) (by simp) ?_
    simp [hf, e]
  simp [fn_law, runFn_eq, hB]
end Lk36
set_option Elab.async false
set_option linter.all false
set_option maxRecDepth 100000
set_option maxHeartbeats 4000000
namespace Lk36
open PySem PySem.Spec PyProof.Rows L2 Dn
def top (i : Nat) : Stmt := PySem.Challenge.pw_loghall_k36_whole_limits_by_keys.main.body.getD i (.Pass ⟨0, 0, 0, 0⟩)
abbrev s__law_draw : Stmt := top 6
abbrev s__law_due : Stmt := top 9
abbrev s__law_pick : Stmt := top 7
abbrev s_Limit_init : Stmt := inClass (top 4) 0
abbrev s_Limit_take : Stmt := inClass (top 4) 1
abbrev s__law_takes : Stmt := top 8
abbrev s_law : Stmt := top 10
theorem sc__law_draw : FnScope ["_law_script", "_law_town", "_law_many", "_law_k", "_law_cell", "_law_number", "_law_more"] ["_law_script", "_law_town", "_law_many"] (defScope s__law_draw) := ⟨rfl, rfl, rfl, by decide +kernel, rfl, by decide +kernel, by decide +kernel⟩
theorem sc__law_due : FnScope ["_law_many", "_law_span", "_law_rows", "_law_let", "_law_last", "_law_got", "_law_moment", "_law_key", "_law_near", "_law_one"] ["_law_many", "_law_span", "_law_rows"] (defScope s__law_due) := ⟨rfl, rfl, rfl, by decide +kernel, rfl, by decide +kernel, by decide +kernel⟩
theorem sc__law_pick : FnScope ["_law_script", "_law_town", "_law_some"] ["_law_script", "_law_town", "_law_some"] (defScope s__law_pick) := ⟨rfl, rfl, rfl, by decide +kernel, rfl, by decide +kernel, by decide +kernel⟩
theorem sc_Limit_init : FnScope ["self", "many", "span"] ["self", "many", "span"] (defScope s_Limit_init) := ⟨rfl, rfl, rfl, by decide +kernel, rfl, by decide +kernel, by decide +kernel⟩
theorem sc_Limit_take : FnScope ["self", "moment", "key", "late", "one"] ["self", "moment", "key"] (defScope s_Limit_take) := ⟨rfl, rfl, rfl, by decide +kernel, rfl, by decide +kernel, by decide +kernel⟩
theorem sc__law_takes : FnScope ["_law_many", "_law_span", "_law_rows", "_law_by", "_law_times", "_law_limit", "_law_got", "_law_moment", "_law_key"] ["_law_many", "_law_span", "_law_rows", "_law_by", "_law_times"] (defScope s__law_takes) := ⟨rfl, rfl, rfl, by decide +kernel, rfl, by decide +kernel, by decide +kernel⟩
theorem sc_law : FnScope ["_law_script", "_law_town", "_law_k", "_law_many", "_law_span", "_law_moment", "_law_rows", "_law_turn", "_law_got", "_law_fine", "_law_row", "_law_word", "_law_words", "_law_key", "_law_some", "_law_due_here", "_law_let", "_law_one", "_law_name", "_law_at"] ["_law_script"] (defScope s_law) := ⟨rfl, rfl, rfl, by decide +kernel, rfl, by decide +kernel, by decide +kernel⟩
def fnames : List Str := ["many", "level", "kept", "span", "passed", "now", "texts", "stops", "disk", "most", "keep", "last", "name", "least", "gate", "form", "levels", "closed", "writers", "still", "left", "deep"]
def fname (i : Nat) : Str := fnames.getD i "?"
theorem fname_inj (i j : Nat) (hi : i < 22) (hj : j < 22) (h : fname i = fname j) : i = j := by
  have q : ∀ i, i < 22 → ∀ j, j < 22 → fname i = fname j → i = j := by decide +kernel
  exact q i hi j hj h
def mkC (K : PySem.W.Frag) (A1 X6 : Addr) : Dn.Ctx := { K := K, fn := fname, fN := 22, finj := fname_inj, cl := fun c => match c with | 1 => some A1 | _ => none, ec := fun c => match c with | 6 => some X6 | _ => none, att := att }
structure Txt (K : PySem.W.Frag) (mg : Str → Option Value) (A1 X6 : Addr) : Prop where
  g_Falling : mg "Falling" = some (.ref X6)
  x_Falling : ExcF K X6
  m_Falling : ∀ j A', (mkC K A1 X6).ec j = some A' → PySem.W.exmOne (mkC K A1 X6).K (.ref A') (.ref X6) = some (decide (j = 6))
  n_len : mg "len" = none
  n_max : mg "max" = none
  n_range : mg "range" = none
  n_tuple : mg "tuple" = none
  n_zip : mg "zip" = none
theorem nf_Limit_take : ∀ i, i < 22 → fname i ≠ "take" := by decide +kernel
section
variable {P : Program} {w : World} {K : PySem.W.Frag} {mg : Str → Option Value} {base : Heap} {A1 X6 : Addr}
theorem ok__law_draw (T : Txt K mg A1 X6) (Fa : Facts (mkC K A1 X6)) (R : RawF K mg "_law_draw" s__law_draw ["_law_script", "_law_town", "_law_many"])  : GF P w K mg base (mkC K A1 X6) "_law_draw" 1 3 fn__law_draw := by
  refine GF.mk' (k := 0) R sc__law_draw fun f cdv A outer s H E hr => ?_
  have tk := takes_cx (P := P) (w := w) (K := K) (mg := mg) (base := base) (N := ["_law_script", "_law_town", "_law_many", "_law_k", "_law_cell", "_law_number", "_law_more"]) (qual := "_law_draw") (scope := defScope s__law_draw) (f := f) (cd := cdv) (A := A) (outer := outer) (s := s) (H := H) (E := E)
  have hp := passes_cx (P := P) (w := w) (K := K) (mg := mg) (base := base) (CX := L2.CX P w) (N := ["_law_script", "_law_town", "_law_many", "_law_k", "_law_cell", "_law_number", "_law_more"]) (qual := "_law_draw") (scope := defScope s__law_draw) (f := f) (cd := cdv) (A := A) (outer := outer) (s := s) (H := H) (E := E)
  exact (ss_cons (s_expr (e_append rfl (d_var 1) (a_cons d_int a_nil)))
    (ss_cons (s_set 3 sc__law_draw.nd (e_len rfl T.n_len rfl (a_cons (d_var 1) a_nil)))
    (ss_cons (s_set 4 sc__law_draw.nd d_int)
    (ss_cons (s_if (t_tru rfl (d_var 0))
    (ss_one (s_set 4 sc__law_draw.nd (d_ix rfl (hu1 hr.units) (d_var 0) (e_mod (d_var 3) (e_len rfl T.n_len rfl (a_cons (d_var 0) a_nil))))))
    ss_nil)
    (ss_cons (s_set 5 sc__law_draw.nd (e_mod (e_add false rfl (d_var 4) (e_mul false rfl d_int (d_var 3))) d_int))
    (ss_cons (s_set 5 sc__law_draw.nd (e_mod (e_mul false rfl (e_mod (e_mul false rfl (d_var 5) (d_var 5)) d_int) d_int) d_int))
    (ss_cons (s_set 6 sc__law_draw.nd (e_mod (e_mul false rfl (e_mod (e_mul false rfl (d_var 5) (d_var 5)) d_int) d_int) d_int))
    (ss_one (s_ret (e_mod (e_add false rfl (e_mul false rfl (e_fdiv (d_var 5) d_int) d_int) (e_fdiv (d_var 6) d_int)) (d_var 2)))))))))))
theorem ok__law_due (T : Txt K mg A1 X6) (Fa : Facts (mkC K A1 X6)) (R : RawF K mg "_law_due" s__law_due ["_law_many", "_law_span", "_law_rows"])  : GF P w K mg base (mkC K A1 X6) "_law_due" 1 3 fn__law_due := by
  refine GF.mk' (k := 0) R sc__law_due fun f cdv A outer s H E hr => ?_
  have tk := takes_cx (P := P) (w := w) (K := K) (mg := mg) (base := base) (N := ["_law_many", "_law_span", "_law_rows", "_law_let", "_law_last", "_law_got", "_law_moment", "_law_key", "_law_near", "_law_one"]) (qual := "_law_due") (scope := defScope s__law_due) (f := f) (cd := cdv) (A := A) (outer := outer) (s := s) (H := H) (E := E)
  have hp := passes_cx (P := P) (w := w) (K := K) (mg := mg) (base := base) (CX := L2.CX P w) (N := ["_law_many", "_law_span", "_law_rows", "_law_let", "_law_last", "_law_got", "_law_moment", "_law_key", "_law_near", "_law_one"]) (qual := "_law_due") (scope := defScope s__law_due) (f := f) (cd := cdv) (A := A) (outer := outer) (s := s) (H := H) (E := E)
  exact (ss_cons (s_par3 3 4 5 rfl sc__law_due.nd (a_cons d_dict0 (a_cons d_int (a_cons (d_lst true a_nil) a_nil))))
    (ss_cons (s_for hp rfl (i_seq rfl (d_var 2)) (g_tup rfl rfl (gs_cons (g_name 6 sc__law_due.nd) (gs_cons (g_name 7 sc__law_due.nd) gs_nil)))
    (ss_cons (s_if (t_lt (d_var 6) (d_var 4))
    (ss_cons (s_expr (e_append rfl (d_var 5) (a_cons d_non a_nil)))
    (ss_one s_continue))
    ss_nil)
    (ss_cons (s_set 4 sc__law_due.nd (d_var 6))
    (ss_cons (s_setLc false [("_law_one", 9)] 8 rfl sc__law_due.nd (i_seq rfl (e_get2 (hu1 hr.units) (d_var 3) (d_var 7) (d_lst false a_nil))) (blkX (N := ["_law_many", "_law_span", "_law_rows", "_law_let", "_law_last", "_law_got", "_law_moment", "_law_key", "_law_near", "_law_one"]) (sc := defScope s__law_due) (by decide +kernel)) (by decide) (fun _ _ _ _ _ => (g_name 9 sc__law_due.nd)) (fun _ _ _ _ _ => (ts_one (t_gt (d_var 9) (e_sub (d_var 6) (d_var 1))))) (fun _ _ _ _ _ => (d_var 9)) (sw_true rfl rfl rfl (by decide +kernel)))
    (ss_cons (s_expr (e_append rfl (d_var 5) (a_cons (e_lt (e_len rfl T.n_len rfl (a_cons (d_var 8) a_nil)) (d_var 0)) a_nil)))
    (ss_one (s_if (t_lt (e_len rfl T.n_len rfl (a_cons (d_var 8) a_nil)) (d_var 0))
    (ss_one (s_asg (e_add false rfl (e_get2 (hu1 hr.units) (d_var 3) (d_var 7) (d_lst false a_nil)) (d_lst false (a_cons (d_var 6) a_nil))) (g_sub (W := fun cv dx _ H' => E cv dx H') (hu1 hr.units) (d_var 3) (d_var 7))))
    ss_nil)))))))
    (ss_one (s_ret (d_var 5)))))
theorem ok__law_pick (T : Txt K mg A1 X6) (Fa : Facts (mkC K A1 X6)) (R : RawF K mg "_law_pick" s__law_pick ["_law_script", "_law_town", "_law_some"]) (G__law_draw : GF P w K mg base (mkC K A1 X6) "_law_draw" 1 3 fn__law_draw) : GF P w K mg base (mkC K A1 X6) "_law_pick" 2 3 fn__law_pick := by
  refine GF.mk' (k := 1) R sc__law_pick fun f cdv A outer s H E hr => ?_
  have tk := takes_cx (P := P) (w := w) (K := K) (mg := mg) (base := base) (N := ["_law_script", "_law_town", "_law_some"]) (qual := "_law_pick") (scope := defScope s__law_pick) (f := f) (cd := cdv) (A := A) (outer := outer) (s := s) (H := H) (E := E)
  have hp := passes_cx (P := P) (w := w) (K := K) (mg := mg) (base := base) (CX := L2.CX P w) (N := ["_law_script", "_law_town", "_law_some"]) (qual := "_law_pick") (scope := defScope s__law_pick) (f := f) (cd := cdv) (A := A) (outer := outer) (s := s) (H := H) (E := E)
  exact (ss_one (s_ret (d_ix rfl (hu1 hr.units) (d_var 2) (d_call G__law_draw (hr.mono (by omega)) tk rfl (a_cons (d_var 0) (a_cons (d_var 1) (a_cons (e_len rfl T.n_len rfl (a_cons (d_var 2) a_nil)) a_nil)))))))
theorem ok_Limit_init (T : Txt K mg A1 X6) (Fa : Facts (mkC K A1 X6)) (R : RawK K mg (mkC K A1 X6) "Limit" 1 "Limit.__init__" s_Limit_init ["self", "many", "span"])  : GK P w K mg base (mkC K A1 X6) "Limit" 1 1 3 fn_Limit_init := by
  refine GK.mk' (k := 0) R sc_Limit_init fun f cdv A outer s H E hr => ?_
  have tk := takes_cx (P := P) (w := w) (K := K) (mg := mg) (base := base) (N := ["self", "many", "span"]) (qual := "Limit.__init__") (scope := defScope s_Limit_init) (f := f) (cd := cdv) (A := A) (outer := outer) (s := s) (H := H) (E := E)
  have hp := passes_cx (P := P) (w := w) (K := K) (mg := mg) (base := base) (CX := L2.CX P w) (N := ["self", "many", "span"]) (qual := "Limit.__init__") (scope := defScope s_Limit_init) (f := f) (cd := cdv) (A := A) (outer := outer) (s := s) (H := H) (E := E)
  exact (ss_cons (s_fld 0 rfl Fa (show 0 < 22 by decide) rfl (d_var 0) (d_var 1))
    (ss_cons (s_fld 3 rfl Fa (show 3 < 22 by decide) rfl (d_var 0) (d_var 2))
    (ss_cons (s_fld 4 rfl Fa (show 4 < 22 by decide) rfl (d_var 0) d_dict0)
    (ss_one (s_fld 5 rfl Fa (show 5 < 22 by decide) rfl (d_var 0) d_int)))))
theorem ok_Limit_take (T : Txt K mg A1 X6) (Fa : Facts (mkC K A1 X6)) (R : RawM K (mkC K A1 X6) 1 "take" "Limit.take" s_Limit_take ["self", "moment", "key"])  : GM P w K mg base (mkC K A1 X6) 1 "take" 1 3 fn_Limit_take := by
  refine GM.mk' (k := 0) R sc_Limit_take fun f cdv A outer s H E hr => ?_
  have tk := takes_cx (P := P) (w := w) (K := K) (mg := mg) (base := base) (N := ["self", "moment", "key", "late", "one"]) (qual := "Limit.take") (scope := defScope s_Limit_take) (f := f) (cd := cdv) (A := A) (outer := outer) (s := s) (H := H) (E := E)
  have hp := passes_cx (P := P) (w := w) (K := K) (mg := mg) (base := base) (CX := L2.CX P w) (N := ["self", "moment", "key", "late", "one"]) (qual := "Limit.take") (scope := defScope s_Limit_take) (f := f) (cd := cdv) (A := A) (outer := outer) (s := s) (H := H) (E := E)
  exact (ss_cons (s_if (t_lt (d_var 1) (d_fld 5 rfl Fa (show 5 < 22 by decide) rfl (d_var 0)))
    (ss_one (s_raise0 6 rfl tk rfl rfl T.x_Falling T.g_Falling))
    ss_nil)
    (ss_cons (s_fld 5 rfl Fa (show 5 < 22 by decide) rfl (d_var 0) (d_var 1))
    (ss_cons (s_setLc true [("one", 4)] 3 rfl sc_Limit_take.nd (i_seq rfl (e_get2 (hu1 hr.units) (d_fld 4 rfl Fa (show 4 < 22 by decide) rfl (d_var 0)) (d_var 2) (d_tup a_nil))) (blkX (N := ["self", "moment", "key", "late", "one"]) (sc := defScope s_Limit_take) (by decide +kernel)) (by decide) (fun _ _ _ _ _ => (g_name 4 sc_Limit_take.nd)) (fun _ _ _ _ _ => (ts_one (t_gt (d_var 4) (e_sub (d_var 1) (d_fld 3 rfl Fa (show 3 < 22 by decide) rfl (d_var 0)))))) (fun _ _ _ _ _ => (d_var 4)) (sw_true rfl rfl rfl (by decide +kernel)))
    (ss_cons (s_if (t_lt (e_len rfl T.n_len rfl (a_cons (d_var 3) a_nil)) (d_fld 0 rfl Fa (show 0 < 22 by decide) rfl (d_var 0)))
    (ss_cons (s_expr (e_append rfl (d_var 3) (a_cons (d_var 1) a_nil)))
    (ss_cons (s_asg (e_tuple rfl T.n_tuple rfl (a_cons (d_var 3) a_nil)) (g_sub (W := fun cv dx _ H' => E cv dx H') (hu1 hr.units) (d_fld 4 rfl Fa (show 4 < 22 by decide) rfl (d_var 0)) (d_var 2)))
    (ss_one (s_ret d_bl))))
    ss_nil)
    (ss_one (s_ret d_bl))))))
theorem ok__law_takes (T : Txt K mg A1 X6) (Fa : Facts (mkC K A1 X6)) (R : RawF K mg "_law_takes" s__law_takes ["_law_many", "_law_span", "_law_rows", "_law_by", "_law_times"]) (G_Limit_init : GK P w K mg base (mkC K A1 X6) "Limit" 1 1 3 fn_Limit_init) (G_Limit_take : GM P w K mg base (mkC K A1 X6) 1 "take" 1 3 fn_Limit_take) : GF P w K mg base (mkC K A1 X6) "_law_takes" 3 5 fn__law_takes := by
  refine GF.mk' (k := 2) R sc__law_takes fun f cdv A outer s H E hr => ?_
  have tk := takes_cx (P := P) (w := w) (K := K) (mg := mg) (base := base) (N := ["_law_many", "_law_span", "_law_rows", "_law_by", "_law_times", "_law_limit", "_law_got", "_law_moment", "_law_key"]) (qual := "_law_takes") (scope := defScope s__law_takes) (f := f) (cd := cdv) (A := A) (outer := outer) (s := s) (H := H) (E := E)
  have hp := passes_cx (P := P) (w := w) (K := K) (mg := mg) (base := base) (CX := L2.CX P w) (N := ["_law_many", "_law_span", "_law_rows", "_law_by", "_law_times", "_law_limit", "_law_got", "_law_moment", "_law_key"]) (qual := "_law_takes") (scope := defScope s__law_takes) (f := f) (cd := cdv) (A := A) (outer := outer) (s := s) (H := H) (E := E)
  exact (ss_cons (s_par 5 6 rfl sc__law_takes.nd (a_cons (d_make G_Limit_init (hr.mono (by omega)) tk rfl (a_cons (d_var 0) (a_cons (e_mul false rfl (d_var 1) (d_var 4)) a_nil))) (a_cons (d_lst true a_nil) a_nil)))
    (ss_cons (s_for hp rfl (i_seq rfl (d_var 2)) (g_tup rfl rfl (gs_cons (g_name 7 sc__law_takes.nd) (gs_cons (g_name 8 sc__law_takes.nd) gs_nil)))
    (ss_one (s_try 6 rfl rfl rfl ⟨rfl, by decide, .inl T.g_Falling⟩ tk T.m_Falling (fun W1 pn xe tk hp => (ss_one (s_expr (e_append rfl (d_var 6) (a_cons (d_meth 1 rfl Fa G_Limit_take (hr.mono (by omega)) tk nf_Limit_take (d_var 5) (a_cons (e_add false rfl (d_var 3) (e_mul false rfl (d_var 7) (d_var 4))) (a_cons (d_var 8) a_nil))) a_nil))))) (fun a pn => (ss_one (s_expr (e_append rfl (d_var 6) (a_cons d_non a_nil))))))))
    (ss_one (s_ret (d_var 6)))))
theorem ok_law {f : Addr} {fd : FuncData} (T : Txt K mg A1 X6) (Fa : Facts (mkC K A1 X6)) (F : Fun K "law" "law" s_law f fd) (G__law_draw : GF P w K mg base (mkC K A1 X6) "_law_draw" 1 3 fn__law_draw) (G__law_due : GF P w K mg base (mkC K A1 X6) "_law_due" 1 3 fn__law_due) (G__law_pick : GF P w K mg base (mkC K A1 X6) "_law_pick" 2 3 fn__law_pick) (G__law_takes : GF P w K mg base (mkC K A1 X6) "_law_takes" 3 5 fn__law_takes) : FnOk P w K mg base (L2.CX P w) 4 f fd ["_law_script"] (spD (mkC K A1 X6) 1 fn_law) := by
  refine fn_okD (k := 3) F sc_law fun cdv A outer s H E hr => ?_
  have tk := takes_cx (P := P) (w := w) (K := K) (mg := mg) (base := base) (N := ["_law_script", "_law_town", "_law_k", "_law_many", "_law_span", "_law_moment", "_law_rows", "_law_turn", "_law_got", "_law_fine", "_law_row", "_law_word", "_law_words", "_law_key", "_law_some", "_law_due_here", "_law_let", "_law_one", "_law_name", "_law_at"]) (qual := "law") (scope := defScope s_law) (f := f) (cd := cdv) (A := A) (outer := outer) (s := s) (H := H) (E := E)
  have hp := passes_cx (P := P) (w := w) (K := K) (mg := mg) (base := base) (CX := L2.CX P w) (N := ["_law_script", "_law_town", "_law_k", "_law_many", "_law_span", "_law_moment", "_law_rows", "_law_turn", "_law_got", "_law_fine", "_law_row", "_law_word", "_law_words", "_law_key", "_law_some", "_law_due_here", "_law_let", "_law_one", "_law_name", "_law_at"]) (qual := "law") (scope := defScope s_law) (f := f) (cd := cdv) (A := A) (outer := outer) (s := s) (H := H) (E := E)
  exact (ss_cons (s_set 1 sc_law.nd (d_lst true a_nil))
    (ss_cons (s_for hp rfl (i_range1 rfl T.n_range (a_cons d_int a_nil)) (g_name 2 sc_law.nd)
    (ss_cons (s_par 3 4 rfl sc_law.nd (a_cons (e_add false rfl d_int (d_call G__law_draw (hr.mono (by omega)) tk rfl (a_cons (d_var 0) (a_cons (d_var 1) (a_cons d_int a_nil))))) (a_cons (e_add false rfl d_int (d_call G__law_draw (hr.mono (by omega)) tk rfl (a_cons (d_var 0) (a_cons (d_var 1) (a_cons d_int a_nil))))) a_nil)))
    (ss_cons (s_par 5 6 rfl sc_law.nd (a_cons d_int (a_cons (d_lst true a_nil) a_nil)))
    (ss_cons (s_for hp rfl (i_range1 rfl T.n_range (a_cons d_int a_nil)) (g_name 7 sc_law.nd)
    (ss_cons (s_set 5 sc_law.nd (e_add false rfl (d_var 5) (d_call G__law_pick (hr.mono (by omega)) tk rfl (a_cons (d_var 0) (a_cons (d_var 1) (a_cons (d_lst false (a_cons d_int (a_cons d_int (a_cons d_int (a_cons d_int (a_cons (e_fdiv (d_var 4) d_int) (a_cons (d_var 4) (a_cons (e_neg d_int) a_nil)))))))) a_nil))))))
    (ss_cons (s_set 5 sc_law.nd (e_max2 rfl rfl T.n_max rfl (a_cons d_int (a_cons (d_var 5) a_nil))))
    (ss_one (s_expr (e_append rfl (d_var 6) (a_cons (d_tup (a_cons (d_var 5) (a_cons (d_call G__law_pick (hr.mono (by omega)) tk rfl (a_cons (d_var 0) (a_cons (d_var 1) (a_cons (d_lst false (a_cons (d_str [97]) (a_cons (d_str [98]) (a_cons (d_str []) a_nil)))) a_nil)))) a_nil))) a_nil)))))))
    (ss_cons (s_set 8 sc_law.nd (d_call G__law_takes (hr.mono (by omega)) tk rfl (a_cons (d_var 3) (a_cons (d_var 4) (a_cons (d_var 6) (a_cons d_int (a_cons d_int a_nil)))))))
    (ss_cons (s_if (DW.t (w_or (t_ne rfl hr.units (d_var 8) (d_call G__law_due (hr.mono (by omega)) tk rfl (a_cons (d_var 3) (a_cons (d_var 4) (a_cons (d_var 6) a_nil))))) (w_or1 (t_ne rfl hr.units (d_call G__law_takes (hr.mono (by omega)) tk rfl (a_cons (d_var 3) (a_cons (d_var 4) (a_cons (d_var 6) (a_cons d_int (a_cons d_int a_nil)))))) (d_var 8)))))
    (ss_one (s_ret d_bl))
    ss_nil)
    (ss_cons (s_if (DW.t (w_or (t_ne rfl hr.units (d_call G__law_takes (hr.mono (by omega)) tk rfl (a_cons (d_var 3) (a_cons (d_var 4) (a_cons (d_var 6) (a_cons d_int (a_cons d_int a_nil)))))) (d_var 8)) (w_or1 (t_ne rfl hr.units (d_call G__law_takes (hr.mono (by omega)) tk rfl (a_cons (d_var 3) (a_cons (d_var 4) (a_cons (d_var 6) (a_cons d_int (a_cons d_int a_nil)))))) (d_var 8)))))
    (ss_one (s_ret d_bl))
    ss_nil)
    (ss_cons (s_setLc false [("_law_row", 10), ("_law_word", 11)] 9 rfl sc_law.nd (i_zip rfl rfl T.n_zip (a_cons (d_var 6) (a_cons (d_var 8) a_nil))) (blkX (N := ["_law_script", "_law_town", "_law_k", "_law_many", "_law_span", "_law_moment", "_law_rows", "_law_turn", "_law_got", "_law_fine", "_law_row", "_law_word", "_law_words", "_law_key", "_law_some", "_law_due_here", "_law_let", "_law_one", "_law_name", "_law_at"]) (sc := defScope s_law) (by decide +kernel)) (by decide) (fun _ _ _ _ _ => (g_tup rfl rfl (gs_cons (g_name 10 sc_law.nd) (gs_cons (g_name 11 sc_law.nd) gs_nil)))) (fun _ _ _ _ _ => (ts_one (t_notN (d_var 11) d_non))) (fun _ _ _ _ _ => (d_var 10)) (sw_true rfl rfl rfl (by decide +kernel)))
    (ss_cons (s_setLc false [("_law_word", 11)] 12 rfl sc_law.nd (i_seq rfl (d_var 8)) (blkX (N := ["_law_script", "_law_town", "_law_k", "_law_many", "_law_span", "_law_moment", "_law_rows", "_law_turn", "_law_got", "_law_fine", "_law_row", "_law_word", "_law_words", "_law_key", "_law_some", "_law_due_here", "_law_let", "_law_one", "_law_name", "_law_at"]) (sc := defScope s_law) (by decide +kernel)) (by decide) (fun _ _ _ _ _ => (g_name 11 sc_law.nd)) (fun _ _ _ _ _ => (ts_one (t_notN (d_var 11) d_non))) (fun _ _ _ _ _ => (d_var 11)) (sw_true rfl rfl rfl (by decide +kernel)))
    (ss_cons (s_if (t_ne rfl hr.units (d_call G__law_takes (hr.mono (by omega)) tk rfl (a_cons (d_var 3) (a_cons (d_var 4) (a_cons (d_var 9) (a_cons d_int (a_cons d_int a_nil)))))) (d_var 12))
    (ss_one (s_ret d_bl))
    ss_nil)
    (ss_cons (s_for hp rfl (i_seq rfl (d_tup (a_cons (d_str [97]) (a_cons (d_str [98]) (a_cons (d_str []) a_nil))))) (g_name 13 sc_law.nd)
    (ss_cons (s_setLc false [("_law_row", 10)] 14 rfl sc_law.nd (i_seq rfl (d_var 9)) (blkX (N := ["_law_script", "_law_town", "_law_k", "_law_many", "_law_span", "_law_moment", "_law_rows", "_law_turn", "_law_got", "_law_fine", "_law_row", "_law_word", "_law_words", "_law_key", "_law_some", "_law_due_here", "_law_let", "_law_one", "_law_name", "_law_at"]) (sc := defScope s_law) (by decide +kernel)) (by decide) (fun _ _ _ _ _ => (g_name 10 sc_law.nd)) (fun _ _ _ _ _ => (ts_one (t_eq rfl hr.units (d_ix rfl (hu1 hr.units) (d_var 10) d_int) (d_var 13)))) (fun _ _ _ _ _ => (d_var 10)) (sw_true rfl rfl rfl (by decide +kernel)))
    (ss_cons (s_setLc false [("_law_row", 10), ("_law_word", 11)] 15 rfl sc_law.nd (i_zip rfl rfl T.n_zip (a_cons (d_var 9) (a_cons (d_var 12) a_nil))) (blkX (N := ["_law_script", "_law_town", "_law_k", "_law_many", "_law_span", "_law_moment", "_law_rows", "_law_turn", "_law_got", "_law_fine", "_law_row", "_law_word", "_law_words", "_law_key", "_law_some", "_law_due_here", "_law_let", "_law_one", "_law_name", "_law_at"]) (sc := defScope s_law) (by decide +kernel)) (by decide) (fun _ _ _ _ _ => (g_tup rfl rfl (gs_cons (g_name 10 sc_law.nd) (gs_cons (g_name 11 sc_law.nd) gs_nil)))) (fun _ _ _ _ _ => (ts_one (t_eq rfl hr.units (d_ix rfl (hu1 hr.units) (d_var 10) d_int) (d_var 13)))) (fun _ _ _ _ _ => (d_var 11)) (sw_true rfl rfl rfl (by decide +kernel)))
    (ss_cons (s_if (t_ne rfl hr.units (d_call G__law_takes (hr.mono (by omega)) tk rfl (a_cons (d_var 3) (a_cons (d_var 4) (a_cons (d_var 14) (a_cons d_int (a_cons d_int a_nil)))))) (d_var 15))
    (ss_one (s_ret d_bl))
    ss_nil)
    (ss_cons (s_setLc false [("_law_one", 17), ("_law_name", 18), ("_law_word", 11)] 16 rfl sc_law.nd (i_zip rfl rfl T.n_zip (a_cons (d_var 9) (a_cons (d_var 12) a_nil))) (blkX (N := ["_law_script", "_law_town", "_law_k", "_law_many", "_law_span", "_law_moment", "_law_rows", "_law_turn", "_law_got", "_law_fine", "_law_row", "_law_word", "_law_words", "_law_key", "_law_some", "_law_due_here", "_law_let", "_law_one", "_law_name", "_law_at"]) (sc := defScope s_law) (by decide +kernel)) (by decide) (fun _ _ _ _ _ => (g_tup rfl rfl (gs_cons (g_tup rfl rfl (gs_cons (g_name 17 sc_law.nd) (gs_cons (g_name 18 sc_law.nd) gs_nil))) (gs_cons (g_name 11 sc_law.nd) gs_nil)))) (fun _ _ _ _ _ => (ts_one (DW.t (w_and (t_eq rfl hr.units (d_var 18) (d_var 13)) (w_and1 (t_tru rfl (d_var 11))))))) (fun _ _ _ _ _ => (d_var 17)) (sw_true rfl rfl rfl (by decide +kernel)))
    (ss_one (s_for hp rfl (i_range1 rfl T.n_range (a_cons (e_sub (e_len rfl T.n_len rfl (a_cons (d_var 16) a_nil)) (d_var 3)) a_nil)) (g_name 19 sc_law.nd)
    (ss_one (s_if (t_lt (e_sub (d_ix rfl (hu1 hr.units) (d_var 16) (e_add false rfl (d_var 19) (d_var 3))) (d_ix rfl (hu1 hr.units) (d_var 16) (d_var 19))) (d_var 4))
    (ss_one (s_ret d_bl))
    ss_nil)))))))))
    (ss_one (s_if (t_ne rfl hr.units (d_call G__law_takes (hr.mono (by omega)) tk rfl (a_cons d_int (a_cons (d_var 4) (a_cons (d_var 9) (a_cons d_int (a_cons d_int a_nil)))))) (e_mul false rfl (d_lst false (a_cons d_bl a_nil)) (e_len rfl T.n_len rfl (a_cons (d_var 9) a_nil))))
    (ss_one (s_ret d_bl))
    ss_nil)))))))))))))
    (ss_one (s_ret d_bl))))
theorem ok_all {f : Addr} {fd : FuncData} (T : Txt K mg A1 X6) (Fa : Facts (mkC K A1 X6)) (R__law_draw : RawF K mg "_law_draw" s__law_draw ["_law_script", "_law_town", "_law_many"]) (R__law_due : RawF K mg "_law_due" s__law_due ["_law_many", "_law_span", "_law_rows"]) (R__law_pick : RawF K mg "_law_pick" s__law_pick ["_law_script", "_law_town", "_law_some"]) (R_Limit_init : RawK K mg (mkC K A1 X6) "Limit" 1 "Limit.__init__" s_Limit_init ["self", "many", "span"]) (R_Limit_take : RawM K (mkC K A1 X6) 1 "take" "Limit.take" s_Limit_take ["self", "moment", "key"]) (R__law_takes : RawF K mg "_law_takes" s__law_takes ["_law_many", "_law_span", "_law_rows", "_law_by", "_law_times"]) (F : Fun K "law" "law" s_law f fd) : FnOk P w K mg base (L2.CX P w) 4 f fd ["_law_script"] (spD (mkC K A1 X6) 1 fn_law) := by
  have G__law_draw : GF P w K mg base (mkC K A1 X6) "_law_draw" 1 3 fn__law_draw := ok__law_draw T Fa R__law_draw 
  have G__law_due : GF P w K mg base (mkC K A1 X6) "_law_due" 1 3 fn__law_due := ok__law_due T Fa R__law_due 
  have G__law_pick : GF P w K mg base (mkC K A1 X6) "_law_pick" 2 3 fn__law_pick := ok__law_pick T Fa R__law_pick G__law_draw
  have G_Limit_init : GK P w K mg base (mkC K A1 X6) "Limit" 1 1 3 fn_Limit_init := ok_Limit_init T Fa R_Limit_init 
  have G_Limit_take : GM P w K mg base (mkC K A1 X6) 1 "take" 1 3 fn_Limit_take := ok_Limit_take T Fa R_Limit_take 
  have G__law_takes : GF P w K mg base (mkC K A1 X6) "_law_takes" 3 5 fn__law_takes := ok__law_takes T Fa R__law_takes G_Limit_init G_Limit_take
  exact ok_law T Fa F G__law_draw G__law_due G__law_pick G__law_takes
end
theorem all_mk {P : Program} {w : World} {K : PySem.W.Frag} {mg : Str → Option Value} {h : Heap} {fa : Addr} {A1 X6 : Addr} {f__law_draw : Addr} {oc__law_draw kV__law_draw dc__law_draw pm__law_draw cd__law_draw ct__law_draw : Value} {od__law_draw an__law_draw : Option Addr} {sl__law_draw : Array (Option Value)} {f__law_due : Addr} {oc__law_due kV__law_due dc__law_due pm__law_due cd__law_due ct__law_due : Value} {od__law_due an__law_due : Option Addr} {sl__law_due : Array (Option Value)} {f__law_pick : Addr} {oc__law_pick kV__law_pick dc__law_pick pm__law_pick cd__law_pick ct__law_pick : Value} {od__law_pick an__law_pick : Option Addr} {sl__law_pick : Array (Option Value)} {f_Limit_init : Addr} {oc_Limit_init kV_Limit_init dc_Limit_init pm_Limit_init cd_Limit_init ct_Limit_init : Value} {od_Limit_init an_Limit_init : Option Addr} {sl_Limit_init : Array (Option Value)} {f_Limit_take : Addr} {oc_Limit_take kV_Limit_take dc_Limit_take pm_Limit_take cd_Limit_take ct_Limit_take : Value} {od_Limit_take an_Limit_take : Option Addr} {sl_Limit_take : Array (Option Value)} {f__law_takes : Addr} {oc__law_takes kV__law_takes dc__law_takes pm__law_takes cd__law_takes ct__law_takes : Value} {od__law_takes an__law_takes : Option Addr} {sl__law_takes : Array (Option Value)} {f_law : Addr} {oc_law kV_law dc_law pm_law cd_law ct_law : Value} {od_law an_law : Option Addr} {sl_law : Array (Option Value)} (X : K.In h) (G : h.Ns mainGlobals mg) (hfa : mg "law" = some (.ref fa))
    (hn_len : PySem.W.nsIn K mainGlobals "len" = some none)
    (hn_max : PySem.W.nsIn K mainGlobals "max" = some none)
    (hn_range : PySem.W.nsIn K mainGlobals "range" = some none)
    (hn_tuple : PySem.W.nsIn K mainGlobals "tuple" = some none)
    (hn_zip : PySem.W.nsIn K mainGlobals "zip" = some none)
    (hg_Falling : PySem.W.nsIn K mainGlobals "Falling" = some (some (.ref X6)))
    (hq_Falling : PySem.W.excIn K X6 [.type "ValueError", .type "Exception", .type "BaseException", .type "object"] "ValueError.__new__" = true)
    (hi_Falling : PySem.W.isClsIn K X6 = true)
    (hk_Falling : PySem.W.keepIn K (.ref X6) = true)
    (hs_Falling : PySem.W.subIn K (.ref X6) (.type "BaseException") = some true)
    (ht_Falling : PySem.W.typeIn K (.ref X6) = some (.type "type"))
    (hm_Falling_Falling : PySem.W.subIn K (.ref X6) (.ref X6) = some true)
    (ha_Limit : PySem.W.nsIn K mainGlobals "Limit" = some (some (.ref A1)))
    (hfc_Limit : FactC K A1)
    (hna_Limit_many : PySem.W.findIn K (.ref A1) "many" = some none)
    (hna_Limit_span : PySem.W.findIn K (.ref A1) "span" = some none)
    (hna_Limit_passed : PySem.W.findIn K (.ref A1) "passed" = some none)
    (hna_Limit_now : PySem.W.findIn K (.ref A1) "now" = some none)
    (hmk_Limit : PySem.W.makesIn K A1 = true)
    (hkc_Limit : PySem.W.keepIn K (.ref A1) = true)
    (ha__law_draw : PySem.W.nsIn K mainGlobals "_law_draw" = some (some (.ref f__law_draw)))
    (hl__law_draw : K.lookup f__law_draw = some ⟨oc__law_draw, od__law_draw, .func (PySem.W.fnOf "_law_draw" "_law_draw" (defArgs s__law_draw) (defBody s__law_draw) (defScope s__law_draw) .none kV__law_draw dc__law_draw pm__law_draw an__law_draw cd__law_draw ct__law_draw), sl__law_draw⟩)
    (hcd__law_draw : PySem.W.codeIn K cd__law_draw "_law_draw" = true)
    (hkp__law_draw : PySem.W.keepIn K (.ref f__law_draw) = true)
    (ha__law_due : PySem.W.nsIn K mainGlobals "_law_due" = some (some (.ref f__law_due)))
    (hl__law_due : K.lookup f__law_due = some ⟨oc__law_due, od__law_due, .func (PySem.W.fnOf "_law_due" "_law_due" (defArgs s__law_due) (defBody s__law_due) (defScope s__law_due) .none kV__law_due dc__law_due pm__law_due an__law_due cd__law_due ct__law_due), sl__law_due⟩)
    (hcd__law_due : PySem.W.codeIn K cd__law_due "_law_due" = true)
    (hkp__law_due : PySem.W.keepIn K (.ref f__law_due) = true)
    (ha__law_pick : PySem.W.nsIn K mainGlobals "_law_pick" = some (some (.ref f__law_pick)))
    (hl__law_pick : K.lookup f__law_pick = some ⟨oc__law_pick, od__law_pick, .func (PySem.W.fnOf "_law_pick" "_law_pick" (defArgs s__law_pick) (defBody s__law_pick) (defScope s__law_pick) .none kV__law_pick dc__law_pick pm__law_pick an__law_pick cd__law_pick ct__law_pick), sl__law_pick⟩)
    (hcd__law_pick : PySem.W.codeIn K cd__law_pick "_law_pick" = true)
    (hkp__law_pick : PySem.W.keepIn K (.ref f__law_pick) = true)
    (ha_Limit_init : PySem.W.findIn K (.ref A1) "__init__" = some (some (.ref f_Limit_init)))
    (hi_Limit_init : PySem.W.isFn K (.ref f_Limit_init) = true)
    (hl_Limit_init : K.lookup f_Limit_init = some ⟨oc_Limit_init, od_Limit_init, .func (PySem.W.fnOf "__init__" "Limit.__init__" (defArgs s_Limit_init) (defBody s_Limit_init) (defScope s_Limit_init) .none kV_Limit_init dc_Limit_init pm_Limit_init an_Limit_init cd_Limit_init ct_Limit_init), sl_Limit_init⟩)
    (hcd_Limit_init : PySem.W.codeIn K cd_Limit_init "Limit.__init__" = true)
    (hkp_Limit_init : PySem.W.keepIn K (.ref f_Limit_init) = true)
    (ha_Limit_take : PySem.W.findIn K (.ref A1) "take" = some (some (.ref f_Limit_take)))
    (hi_Limit_take : PySem.W.isFn K (.ref f_Limit_take) = true)
    (hl_Limit_take : K.lookup f_Limit_take = some ⟨oc_Limit_take, od_Limit_take, .func (PySem.W.fnOf "take" "Limit.take" (defArgs s_Limit_take) (defBody s_Limit_take) (defScope s_Limit_take) .none kV_Limit_take dc_Limit_take pm_Limit_take an_Limit_take cd_Limit_take ct_Limit_take), sl_Limit_take⟩)
    (hcd_Limit_take : PySem.W.codeIn K cd_Limit_take "Limit.take" = true)
    (hkp_Limit_take : PySem.W.keepIn K (.ref f_Limit_take) = true)
    (ha__law_takes : PySem.W.nsIn K mainGlobals "_law_takes" = some (some (.ref f__law_takes)))
    (hl__law_takes : K.lookup f__law_takes = some ⟨oc__law_takes, od__law_takes, .func (PySem.W.fnOf "_law_takes" "_law_takes" (defArgs s__law_takes) (defBody s__law_takes) (defScope s__law_takes) .none kV__law_takes dc__law_takes pm__law_takes an__law_takes cd__law_takes ct__law_takes), sl__law_takes⟩)
    (hcd__law_takes : PySem.W.codeIn K cd__law_takes "_law_takes" = true)
    (hkp__law_takes : PySem.W.keepIn K (.ref f__law_takes) = true)
    (ha_law : PySem.W.nsIn K mainGlobals "law" = some (some (.ref f_law)))
    (hl_law : K.lookup f_law = some ⟨oc_law, od_law, .func (PySem.W.fnOf "law" "law" (defArgs s_law) (defBody s_law) (defScope s_law) .none kV_law dc_law pm_law an_law cd_law ct_law), sl_law⟩)
    (hcd_law : PySem.W.codeIn K cd_law "law" = true)
    (hkp_law : PySem.W.keepIn K (.ref f_law) = true)
    (main : ∀ ns : List Int, ns.length ≤ 63 → ∃ O, fn_law [.scr (ns.map D.int)] [] = .ok (.bl true) O) :
    ∃ fd : FuncData, (∀ (s : Shared) (u : Value), BindsTo s fd ⟨[u], []⟩ [("_law_script", u)]) ∧ ∀ base : Heap, K.In base → base.Ns mainGlobals mg → FnOk P w K mg base (L2.CX P w) 4 fa fd ["_law_script"] (spLaw K) := by
  have T : Txt K mg A1 X6 := ⟨PySem.W.mg_of X G hg_Falling, ⟨hq_Falling, hk_Falling, hs_Falling, ht_Falling⟩, (fun j A' q => match j, q with | 6, q => by cases q; exact exm_mk hs_Falling hi_Falling ht_Falling hm_Falling_Falling), PySem.W.mg_none_of X G hn_len, PySem.W.mg_none_of X G hn_max, PySem.W.mg_none_of X G hn_range, PySem.W.mg_none_of X G hn_tuple, PySem.W.mg_none_of X G hn_zip⟩
  have Fa : Facts (mkC K A1 X6) := by
    refine ⟨fun c A q => ?_, fun c A f q r => ?_⟩
    · match c, q with
      | 1, q => cases q; exact cls_mk hfc_Limit
    · match c, q, f, r with
      | 1, q, 0, r => cases q; exact hna_Limit_many
      | 1, q, 3, r => cases q; exact hna_Limit_span
      | 1, q, 4, r => cases q; exact hna_Limit_passed
      | 1, q, 5, r => cases q; exact hna_Limit_now
  have b__law_draw : BindOk "_law_draw" "_law_draw" s__law_draw ["_law_script", "_law_town", "_law_many"] := fun _ _ _ _ _ _ us hl => match us, hl with | [_, _, _], _ => rfl
  have F__law_draw : FactF K "_law_draw" "_law_draw" s__law_draw f__law_draw := ⟨_, _, _, _, _, _, _, _, _, hl__law_draw, hcd__law_draw, hkp__law_draw⟩
  have R__law_draw : RawF K mg "_law_draw" s__law_draw ["_law_script", "_law_town", "_law_many"] := rawF_mk X G b__law_draw ha__law_draw F__law_draw
  have b__law_due : BindOk "_law_due" "_law_due" s__law_due ["_law_many", "_law_span", "_law_rows"] := fun _ _ _ _ _ _ us hl => match us, hl with | [_, _, _], _ => rfl
  have F__law_due : FactF K "_law_due" "_law_due" s__law_due f__law_due := ⟨_, _, _, _, _, _, _, _, _, hl__law_due, hcd__law_due, hkp__law_due⟩
  have R__law_due : RawF K mg "_law_due" s__law_due ["_law_many", "_law_span", "_law_rows"] := rawF_mk X G b__law_due ha__law_due F__law_due
  have b__law_pick : BindOk "_law_pick" "_law_pick" s__law_pick ["_law_script", "_law_town", "_law_some"] := fun _ _ _ _ _ _ us hl => match us, hl with | [_, _, _], _ => rfl
  have F__law_pick : FactF K "_law_pick" "_law_pick" s__law_pick f__law_pick := ⟨_, _, _, _, _, _, _, _, _, hl__law_pick, hcd__law_pick, hkp__law_pick⟩
  have R__law_pick : RawF K mg "_law_pick" s__law_pick ["_law_script", "_law_town", "_law_some"] := rawF_mk X G b__law_pick ha__law_pick F__law_pick
  have b_Limit_init : BindOk "__init__" "Limit.__init__" s_Limit_init ["self", "many", "span"] := fun _ _ _ _ _ _ us hl => match us, hl with | [_, _, _], _ => rfl
  have F_Limit_init : FactF K "__init__" "Limit.__init__" s_Limit_init f_Limit_init := ⟨_, _, _, _, _, _, _, _, _, hl_Limit_init, hcd_Limit_init, hkp_Limit_init⟩
  have R_Limit_init : RawK K mg (mkC K A1 X6) "Limit" 1 "Limit.__init__" s_Limit_init ["self", "many", "span"] := rawK_mk X G b_Limit_init rfl ha_Limit hmk_Limit hkc_Limit ha_Limit_init hi_Limit_init F_Limit_init
  have b_Limit_take : BindOk "take" "Limit.take" s_Limit_take ["self", "moment", "key"] := fun _ _ _ _ _ _ us hl => match us, hl with | [_, _, _], _ => rfl
  have F_Limit_take : FactF K "take" "Limit.take" s_Limit_take f_Limit_take := ⟨_, _, _, _, _, _, _, _, _, hl_Limit_take, hcd_Limit_take, hkp_Limit_take⟩
  have R_Limit_take : RawM K (mkC K A1 X6) 1 "take" "Limit.take" s_Limit_take ["self", "moment", "key"] := rawM_mk b_Limit_take rfl ha_Limit_take hi_Limit_take F_Limit_take
  have b__law_takes : BindOk "_law_takes" "_law_takes" s__law_takes ["_law_many", "_law_span", "_law_rows", "_law_by", "_law_times"] := fun _ _ _ _ _ _ us hl => match us, hl with | [_, _, _, _, _], _ => rfl
  have F__law_takes : FactF K "_law_takes" "_law_takes" s__law_takes f__law_takes := ⟨_, _, _, _, _, _, _, _, _, hl__law_takes, hcd__law_takes, hkp__law_takes⟩
  have R__law_takes : RawF K mg "_law_takes" s__law_takes ["_law_many", "_law_span", "_law_rows", "_law_by", "_law_times"] := rawF_mk X G b__law_takes ha__law_takes F__law_takes
  have b_law : BindOk "law" "law" s_law ["_law_script"] := fun _ _ _ _ _ _ us hl => match us, hl with | [_], _ => rfl
  have F_law : FactF K "law" "law" s_law f_law := ⟨_, _, _, _, _, _, _, _, _, hl_law, hcd_law, hkp_law⟩
  exact law_end (C := (mkC K A1 X6)) rfl X G hfa b_law ha_law F_law main fun base B1 B2 fd F => ok_all T Fa R__law_draw R__law_due R__law_pick R_Limit_init R_Limit_take R__law_takes F
end Lk36
open PySem PySem.W PyProof.Rows
set_option maxRecDepth 100000 in
set_option maxHeartbeats 0 in
theorem PySem.Challenge.cw_loghall_k36_whole_limits_by_keys_holds : PySem.Challenge.rw_loghall_k36_whole_limits_by_keys.Holds := by
  w_on; o_law; k_head; (case hw => w_witness2)
  k_fill
  refine Dn.walkD (l := PySem.Challenge.rw_loghall_k36_whole_limits_by_keys) (x := "_law_script") (k := 4) rfl rfl ⟨rfl, by decide, by decide⟩ (fun w h Y => PySem.W.kIn_of Y) ?F
  case F =>
    intro w mg fa h KX G hmg
    refine' Lk36.all_mk KX G hmg ?n_len ?n_max ?n_range ?n_tuple ?n_zip ?g_Falling ?q_Falling ?i_Falling ?k_Falling ?s_Falling ?t_Falling ?m_Falling_Falling ?a_Limit ?fc_Limit ?na_Limit_many ?na_Limit_span ?na_Limit_passed ?na_Limit_now ?mk_Limit ?kc_Limit ?a__law_draw ?l__law_draw ?cd__law_draw ?kp__law_draw ?a__law_due ?l__law_due ?cd__law_due ?kp__law_due ?a__law_pick ?l__law_pick ?cd__law_pick ?kp__law_pick ?a_Limit_init ?i_Limit_init ?l_Limit_init ?cd_Limit_init ?kp_Limit_init ?a_Limit_take ?i_Limit_take ?l_Limit_take ?cd_Limit_take ?kp_Limit_take ?a__law_takes ?l__law_takes ?cd__law_takes ?kp__law_takes ?a_law ?l_law ?cd_law ?kp_law Lk36.main
    (case n_len => k_is)
    (case n_max => k_is)
    (case n_range => k_is)
    (case n_tuple => k_is)
    (case n_zip => k_is)
    (case g_Falling => k_is)
    (case q_Falling => k_exc)
    (case i_Falling => k_is)
    (case k_Falling => k_is)
    (case s_Falling => k_is)
    (case t_Falling => k_is)
    (case m_Falling_Falling => first | rfl | k_is)
    (case a_Limit => k_is)
    (case fc_Limit => refine' ⟨?a, ?b, ?c, ?d⟩; (case a => k_is); (case b => k_is); (case c => k_is); (case d => k_is))
    (case na_Limit_many => k_is)
    (case na_Limit_span => k_is)
    (case na_Limit_passed => k_is)
    (case na_Limit_now => k_is)
    (case mk_Limit => k_is)
    (case kc_Limit => k_is)
    (case a__law_draw => k_is)
    (case l__law_draw => k_is)
    (case cd__law_draw => k_is)
    (case kp__law_draw => k_is)
    (case a__law_due => k_is)
    (case l__law_due => k_is)
    (case cd__law_due => k_is)
    (case kp__law_due => k_is)
    (case a__law_pick => k_is)
    (case l__law_pick => k_is)
    (case cd__law_pick => k_is)
    (case kp__law_pick => k_is)
    (case a_Limit_init => k_is)
    (case i_Limit_init => k_is)
    (case l_Limit_init => k_is)
    (case cd_Limit_init => k_is)
    (case kp_Limit_init => k_is)
    (case a_Limit_take => k_is)
    (case i_Limit_take => k_is)
    (case l_Limit_take => k_is)
    (case cd_Limit_take => k_is)
    (case kp_Limit_take => k_is)
    (case a__law_takes => k_is)
    (case l__law_takes => k_is)
    (case cd__law_takes => k_is)
    (case kp__law_takes => k_is)
    (case a_law => k_is)
    (case l_law => k_is)
    (case cd_law => k_is)
    (case kp_law => k_is)
