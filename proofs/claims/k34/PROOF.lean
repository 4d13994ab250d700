import PyProof.Rows.All
import Wide.All
import OpenK.AllK
import Wide.FinOn
import HandS.ForMost
import HandS.ForExc
import HandS.TupAny
import HandS.Evl
import HandS.Flow
import HandS.TupLe
import HandS.TupMul
import HandS.FStr
import HandS.Conv
import HandS.Zip
import HandS.IsInst
import HandS.StrMore
import HandS.StrSplit
import HandS.Style
import HandS.CallSlots
import HandS.TryOnly
import HandS.TryMany
import HandS.SuiteRaise
import HandS.RaiseFrom
import HandS.ExcOwn
import HandS.ExcInit
import HandS.ExcInitHot
import HandS.ExcField
import HandS.Deep
import HandS.Replace
import HandS.ReplaceLit
import HandS.SortRule
import HandS.SortInts
import HandS.SortKw
import HandS.Keys
import HandS.DictEq
import HandS.HotCalls
import HandS.MethStar
import HandS.ExcIs
import HandS.TryElse
import KE.GoesMore
import PyProof.ExcBaseAll.ValueError
import PyProof.ListMulRoad
import PyProof.FactsAll.tuple_2
import HandS.TupSets
import HandS.More
import HandS.SetKeys
import HandS.ListItems
import HandS.ReplaceDef
import HandS.ForSpec
import PyProof.EqAt
import PyProof.EqKinds
import PyProof.TupleCall
import Open.SpecLaws
import KE.OsGo
import HandS.Iter
import HandS.DictComp
import HandS.Dict
import HandS.Finally
import KE.IntTextLaws
import HandS.ReplaceList
import KE.LtData
import PyProof.Rows.CountFlat
import KE.KExcIs
import PyProof.SliceList
import PySem.Challenge.RW_loghall_k34_whole_who_takes_records
set_option Elab.async false
set_option linter.all false
set_option maxRecDepth 100000
set_option maxHeartbeats 2000000
namespace Dn
open PySem PySem.Spec PyProof.Rows L2
/-- pure data; ob l: the thing in cell l; scr: the law's script -/
inductive D where
  | non | bl (b : Bool) | int (i : Int) | str (x : List Nat) | tup (ds : List D) | lst (ds : List D) | scr (ds : List D) | ob (l : Nat)
inductive Cell where
  | ins (c : Nat) (fs : List (Nat × D))
  | lst (ds : List D)
  | dic (kvs : List (Sum Int (List Nat) × D))
  | loc (u : HO) (kvs : List (Sum Int (List Nat) × D))
abbrev DKey := Sum Int (List Nat)
abbrev Sto := List Cell
abbrev Rho := List (Option D)
structure Er where
  cls : Nat
  fs : List (Nat × D)
inductive Res (α : Type) where
  | ok (a : α) (O : Sto) | exc (e : Er) (O : Sto) | bad
abbrev ER := Res D
inductive SR where
  | nx (r : Rho) (O : Sto) | ret (d : D) (O : Sto) | bk (r : Rho) (O : Sto) | ct (r : Rho) (O : Sto) | exc (e : Er) (r : Rho) (O : Sto) | bad
abbrev DE0 := Rho → Sto → ER
abbrev DS0 := Rho → Sto → SR
/-- what is fixed: the written part, the fields' names, the classes' places -/
structure Ctx where
  K : PySem.W.Frag
  fn : Nat → Str
  fN : Nat
  finj : ∀ i j, i < fN → j < fN → fn i = fn j → i = j
  cl : Nat → Option Addr
  ec : Nat → Option Addr
  att : Nat → Nat → Bool
/-- the ghost: what is frozen, where the cells lie, how many there are -/
structure G where
  F : Hp
  θ : Nat → Addr
  n : Nat
def sV (x : List Nat) : V := .str ⟨x.toArray⟩
def kD : DKey → Key
  | .inl i => .inl i
  | .inr x => .inr ⟨x.toArray⟩
mutual
def Shr (K : PySem.W.Frag) (g : G) : D → V → Prop
  | .non, v => v = .non
  | .bl b, v => v = .bl b
  | .int i, v => v = .int i
  | .str x, v => v = sV x
  | .tup ds, v => ∃ a vs, v = .ref a ∧ SqT K g.F a vs ∧ ShrL K g ds vs
  | .lst ds, v => ∃ a vs, v = .ref a ∧ g.F a = some (.lst vs) ∧ ShrL K g ds vs
  | .scr ds, v => ∃ a vs, v = .ref a ∧ SqL K g.F a vs ∧ ShrL K g ds vs
  | .ob l, v => v = .ref (g.θ l) ∧ l < g.n
def ShrL (K : PySem.W.Frag) (g : G) : List D → List V → Prop
  | [], vs => vs = []
  | d :: ds, vs => ∃ v r, vs = v :: r ∧ Shr K g d v ∧ ShrL K g ds r
end
def ShrF (C : Ctx) (g : G) : List (Nat × D) → List (Str × V) → Prop
  | [], vs => vs = []
  | p :: ds, vs => ∃ v r, vs = (C.fn p.1, v) :: r ∧ p.1 < C.fN ∧ Shr C.K g p.2 v ∧ ShrF C g ds r
def ShrK (K : PySem.W.Frag) (g : G) : List (DKey × D) → List (Key × V) → Prop
  | [], vs => vs = []
  | p :: ds, vs => ∃ v r, vs = (kD p.1, v) :: r ∧ Shr K g p.2 v ∧ ShrK K g ds r
def CellOk (C : Ctx) (g : G) (H : Hp) (a : Addr) : Cell → Prop
  | .ins c fs => ∃ A dx vs, C.cl c = some A ∧ H a = some (.ins A dx vs) ∧ ShrF C g fs vs
  | .lst ds => ∃ vs, H a = some (.lst vs) ∧ ShrL C.K g ds vs
  | .dic kvs => ∃ vs, H a = some (.dK vs) ∧ ShrK C.K g kvs vs
  | .loc u kvs => H a = some u ∧ ∃ od vs, u = .frz od (.dK vs) ∧ ShrK C.K g kvs vs
structure RepO (C : Ctx) (g : G) (H : Hp) (O : Sto) : Prop where
  n : g.n = O.length
  F : ∀ a o, g.F a = some o → H a = some o
  cell : ∀ (l : Nat) c, O[l]? = some c → CellOk C g H (g.θ l) c
  fresh : ∀ l, l < g.n → g.F (g.θ l) = none
  inj : ∀ i j, i < g.n → j < g.n → g.θ i = g.θ j → i = j
structure RepS (C : Ctx) (g : G) (σ : L2.St) (r : Rho) : Prop where
  len : σ.length = r.length
  at' : ∀ (i : Nat) d, r[i]? = some (some d) → ∃ v, σ[i]? = some (some v) ∧ Shr C.K g d v
/-- the ghost grows -/
structure GLe (g g' : G) : Prop where
  F : ∀ a o, g.F a = some o → g'.F a = some o
  θ : ∀ l, l < g.n → g'.θ l = g.θ l
  n : g.n ≤ g'.n
/-- .. and the heap: what is tracked outside the cells stays; new cells are new -/
structure Ext (g : G) (H : Hp) (g' : G) (H' : Hp) : Prop where
  le : GLe g g'
  keep : ∀ a o, H a = some o → (∀ l, l < g.n → g.θ l ≠ a) → H' a = some o
  new : ∀ l, g.n ≤ l → l < g'.n → H (g'.θ l) = none
  trk : ∀ l, l < g.n → H' (g.θ l) ≠ none
  frz : ∀ a o, g'.F a = some o → g.F a = some o ∨ H a = none
end Dn
set_option Elab.async false
set_option linter.all false
set_option maxRecDepth 100000
set_option maxHeartbeats 2000000
namespace Dn
open PySem PySem.Spec PyProof.Rows L2
section
variable {C : Ctx} {K : PySem.W.Frag} {g g' g'' : G} {H H' H'' : Hp} {O : Sto} {σ : L2.St} {r : Rho}
theorem ex_rd {F F' : Hp} {a : Addr} {u : HO} (e : ∀ a o, F a = some o → F' a = some o) (h : Rd F a u) : Rd F' a u := by
  rcases h with h | ⟨o, h⟩
  · exact .inl (e a _ h)
  · exact .inr ⟨o, e a _ h⟩
theorem ex_l {F F' : Hp} {a : Addr} {xs : List V} (e : ∀ a o, F a = some o → F' a = some o) (h : SqL K F a xs) : SqL K F' a xs := by
  rcases h with h | h
  · exact .inl (ex_rd e h)
  · exact .inr h
theorem ex_t {F F' : Hp} {a : Addr} {xs : List V} (e : ∀ a o, F a = some o → F' a = some o) (h : SqT K F a xs) : SqT K F' a xs := by
  rcases h with h | h
  · exact .inl (ex_rd e h)
  · exact .inr h
mutual
theorem Shr.mono (e : GLe g g') : ∀ (d : D) (v : V), Shr K g d v → Shr K g' d v
  | .non, _, h => h
  | .bl _, _, h => h
  | .int _, _, h => h
  | .str _, _, h => h
  | .tup ds, v, h => by
    simp only [Shr] at h ⊢
    obtain ⟨a, vs, h1, h2, h3⟩ := h
    exact ⟨a, vs, h1, ex_t e.F h2, ShrL.mono e ds vs h3⟩
  | .lst ds, v, h => by
    simp only [Shr] at h ⊢
    obtain ⟨a, vs, h1, h2, h3⟩ := h
    exact ⟨a, vs, h1, e.F _ _ h2, ShrL.mono e ds vs h3⟩
  | .scr ds, v, h => by
    simp only [Shr] at h ⊢
    obtain ⟨a, vs, h1, h2, h3⟩ := h
    exact ⟨a, vs, h1, ex_l e.F h2, ShrL.mono e ds vs h3⟩
  | .ob l, v, h => by
    simp only [Shr] at h ⊢
    obtain ⟨h1, h2⟩ := h
    exact ⟨by rw [e.θ l h2]; exact h1, Nat.lt_of_lt_of_le h2 e.n⟩
theorem ShrL.mono (e : GLe g g') : ∀ (ds : List D) (vs : List V), ShrL K g ds vs → ShrL K g' ds vs
  | [], _, h => by simp only [ShrL] at h ⊢; exact h
  | d :: ds, vs, h => by
    simp only [ShrL] at h ⊢
    obtain ⟨v, q, h1, h2, h3⟩ := h
    exact ⟨v, q, h1, Shr.mono e d v h2, ShrL.mono e ds q h3⟩
end
theorem ShrF.mono (e : GLe g g') : ∀ (ds : List (Nat × D)) (vs : List (Str × V)), ShrF C g ds vs → ShrF C g' ds vs
  | [], _, h => h
  | p :: ds, vs, ⟨v, q, h1, h2, h3, h4⟩ => ⟨v, q, h1, h2, Shr.mono e _ _ h3, ShrF.mono e ds q h4⟩
theorem ShrK.mono (e : GLe g g') : ∀ (ds : List (DKey × D)) (vs : List (Key × V)), ShrK K g ds vs → ShrK K g' ds vs
  | [], _, h => h
  | p :: ds, vs, ⟨v, q, h1, h2, h3⟩ => ⟨v, q, h1, Shr.mono e _ _ h2, ShrK.mono e ds q h3⟩
theorem CellOk.mono (e : GLe g g') {a : Addr} : ∀ {c : Cell}, CellOk C g H a c → CellOk C g' H a c
  | .ins _ _, ⟨A, dx, vs, h1, h2, h3⟩ => ⟨A, dx, vs, h1, h2, h3.mono e⟩
  | .lst _, ⟨vs, h2, h3⟩ => ⟨vs, h2, ShrL.mono e _ _ h3⟩
  | .dic _, ⟨vs, h2, h3⟩ => ⟨vs, h2, h3.mono e⟩
  | .loc _ _, ⟨h2, od, vs, h1, h3⟩ => ⟨h2, od, vs, h1, h3.mono e⟩
theorem CellOk.heap {a b : Addr} (h : H a = H' b) : ∀ {c : Cell}, CellOk C g H a c → CellOk C g H' b c
  | .ins _ _, ⟨A, dx, vs, h1, h2, h3⟩ => ⟨A, dx, vs, h1, h ▸ h2, h3⟩
  | .lst _, ⟨vs, h2, h3⟩ => ⟨vs, h ▸ h2, h3⟩
  | .dic _, ⟨vs, h2, h3⟩ => ⟨vs, h ▸ h2, h3⟩
  | .loc _ _, ⟨h2, h3⟩ => ⟨h ▸ h2, h3⟩
theorem CellOk.some' {a : Addr} : ∀ {c : Cell}, CellOk C g H a c → ∃ o, H a = some o ∧ True
  | .ins _ _, ⟨A, dx, vs, h1, h2, h3⟩ => ⟨_, h2, trivial⟩
  | .lst _, ⟨vs, h2, h3⟩ => ⟨_, h2, trivial⟩
  | .dic _, ⟨vs, h2, h3⟩ => ⟨_, h2, trivial⟩
  | .loc _ _, ⟨h2, _⟩ => ⟨_, h2, trivial⟩
theorem GLe.refl (g : G) : GLe g g := ⟨fun _ _ h => h, fun _ _ => rfl, Nat.le_refl _⟩
theorem GLe.trans (a : GLe g g') (b : GLe g' g'') : GLe g g'' :=
  ⟨fun x o h => b.F x o (a.F x o h), fun l h => (b.θ l (Nat.lt_of_lt_of_le h a.n)).trans (a.θ l h), Nat.le_trans a.n b.n⟩
theorem RepO.at (R : RepO C g H O) {l : Nat} (h : l < g.n) : ∃ c, O[l]? = some c ∧ CellOk C g H (g.θ l) c := by
  have hl : l < O.length := R.n ▸ h
  exact ⟨O[l], List.getElem?_eq_getElem hl, R.cell l _ (List.getElem?_eq_getElem hl)⟩
theorem RepO.trk (R : RepO C g H O) {l : Nat} (h : l < g.n) : H (g.θ l) ≠ none := by
  obtain ⟨c, _, k⟩ := R.at h
  obtain ⟨o, q, _⟩ := k.some'
  rw [q]; exact fun z => nomatch z
theorem Ext.refl (R : RepO C g H O) : Ext g H g H := ⟨GLe.refl g, fun _ _ h _ => h, fun l h h' => absurd h' (Nat.not_lt.mpr h), fun _ h => R.trk h, fun _ _ h => .inl h⟩
theorem Ext.trans (a : Ext g H g' H') (b : Ext g' H' g'' H'') : Ext g H g'' H'' where
  le := a.le.trans b.le
  keep := fun x o h n => b.keep x o (a.keep x o h n) fun l hl e => by
    by_cases q : l < g.n
    · exact n l q (by rw [← a.le.θ l q]; exact e)
    · have z := a.new l (Nat.le_of_not_lt q) hl
      rw [e, h] at z; cases z
  new := fun l h h' => by
    by_cases q : l < g'.n
    · rw [b.le.θ l q]; exact a.new l h q
    · have z := b.new l (Nat.le_of_not_lt q) h'
      cases e : H (g''.θ l) with
      | none => rfl
      | some o =>
        by_cases c : ∃ k, k < g.n ∧ g.θ k = g''.θ l
        · obtain ⟨k, hk, ek⟩ := c
          exact absurd (ek ▸ z) (a.trk k hk)
        · have z' := a.keep _ o e fun k hk ek => c ⟨k, hk, ek⟩
          rw [z] at z'; cases z'
  trk := fun l h => by
    have z := b.trk l (Nat.lt_of_lt_of_le h a.le.n)
    rw [a.le.θ l h] at z; exact z
  frz := fun x o h => by
    rcases b.frz x o h with h | h
    · exact a.frz x o h
    · refine .inr ?_
      cases e : H x with
      | none => rfl
      | some u =>
        by_cases c : ∃ k, k < g.n ∧ g.θ k = x
        · obtain ⟨k, hk, ek⟩ := c
          exact absurd (ek ▸ h) (a.trk k hk)
        · have z' := a.keep _ u e fun k hk ek => c ⟨k, hk, ek⟩
          rw [h] at z'; cases z'
theorem RepS.mono (e : GLe g g') (R : RepS C g σ r) : RepS C g' σ r := ⟨R.len, fun i d h => let ⟨v, h1, h2⟩ := R.at' i d h; ⟨v, h1, h2.mono e⟩⟩
theorem RepS.set {i : Nat} {d : D} {v : V} (R : RepS C g σ r) (h : Shr C.K g d v) : RepS C g (σ.set i (some v)) (r.set i (some d)) :=
  ⟨by simp [R.len], fun j d' hj => by
    by_cases e : i = j
    · subst e
      by_cases hi : i < r.length
      · rw [List.getElem?_set_self hi] at hj
        cases hj
        exact ⟨v, List.getElem?_set_self (by rw [R.len]; exact hi), h⟩
      · rw [List.getElem?_eq_none (by simpa using hi)] at hj; cases hj
    · rw [List.getElem?_set_ne e] at hj ⊢
      exact R.at' j d' hj⟩
theorem RepS.unset2 {i : Nat} (R : RepS C g σ r) : RepS C g (σ.set i none) (r.set i none) :=
  ⟨by simp [R.len], fun j d' hj => by
    by_cases e : i = j
    · subst e
      by_cases hi : i < r.length
      · rw [List.getElem?_set_self hi] at hj
        cases hj
      · rw [List.getElem?_eq_none (by simpa using hi)] at hj; cases hj
    · rw [List.getElem?_set_ne e] at hj ⊢
      exact R.at' j d' hj⟩
def wipeR (r : Rho) : List Nat → Rho
  | [] => r
  | v :: vs => (wipeR r vs).set v none
theorem RepS.wipe (R : RepS C g σ r) : ∀ vs : List Nat, RepS C g (L2.wipe σ vs) (wipeR r vs)
  | [] => R
  | _ :: vs => (R.wipe vs).unset2
/-- a new object frozen -/
def G.frz (g : G) (p : Addr) (o : HO) : G := { g with F := upd g.F p o }
theorem RepO.ne (R : RepO C g H O) {p : Addr} (hp : H p = none) {l : Nat} (h : l < g.n) : g.θ l ≠ p := fun e => R.trk h (e ▸ hp)
theorem RepO.Fnone (R : RepO C g H O) {p : Addr} (hp : H p = none) : g.F p = none := by
  cases e : g.F p with
  | none => rfl
  | some o => rw [R.F p o e] at hp; cases hp
theorem GLe.frz {p : Addr} {o : HO} (h : g.F p = none) : GLe g (g.frz p o) :=
  ⟨fun a u e => by
    show upd g.F p o a = some u
    rw [upd_ne (ne_of_none e h)]; exact e, fun _ _ => rfl, Nat.le_refl _⟩
theorem RepO.frz (R : RepO C g H O) {p : Addr} {o : HO} (hp : H p = none) : RepO C (g.frz p o) (upd H p o) O := by
  have le := GLe.frz (o := o) (R.Fnone hp)
  refine ⟨R.n, fun a u e => ?_, fun l c e => ?_, fun l hl => ?_, R.inj⟩
  · by_cases q : a = p
    · subst q
      have : upd g.F a o a = some u := e
      rw [upd_same] at this ⊢; exact this
    · have e' : upd g.F p o a = some u := e
      rw [upd_ne q] at e' ⊢
      exact R.F a u e'
  · have hl : l < g.n := by rw [R.n]; exact (List.getElem?_eq_some_iff.mp e).1
    refine ((R.cell l c e).mono le).heap ?_
    show H (g.θ l) = upd H p o (g.θ l)
    rw [upd_ne (R.ne hp hl)]
  · show upd g.F p o (g.θ l) = none
    rw [upd_ne (R.ne hp hl)]
    exact R.fresh l hl
theorem Ext.freeze (R : RepO C g H O) {p : Addr} {o : HO} (hp : H p = none) : Ext g H (g.frz p o) (upd H p o) :=
  ⟨GLe.frz (R.Fnone hp), fun a u e _ => by rw [upd_ne (ne_of_none e hp)]; exact e, fun l h h' => absurd h' (Nat.not_lt.mpr h), fun l hl => by
    rw [upd_ne (R.ne hp hl)]; exact R.trk hl, fun a u e => by
    by_cases q : a = p
    · subst q; exact .inr hp
    · have e' : upd g.F p o a = some u := e
      rw [upd_ne q] at e'
      exact .inl e'⟩
/-- a new cell -/
def G.add (g : G) (p : Addr) : G := { g with θ := fun l => if l = g.n then p else g.θ l, n := g.n + 1 }
theorem G.add_at {p : Addr} : (g.add p).θ g.n = p := if_pos rfl
theorem G.add_ne {p : Addr} {l : Nat} (h : l < g.n) : (g.add p).θ l = g.θ l := if_neg (Nat.ne_of_lt h)
theorem GLe.add {p : Addr} : GLe g (g.add p) := ⟨fun _ _ h => h, fun _ h => G.add_ne h, Nat.le_succ _⟩
/-- the heap H' is H with things at p and at new places of no cell -/
theorem RepO.add (R : RepO C g H O) {p : Addr} {c : Cell} (hp : H p = none) (hk : ∀ a o, H a = some o → H' a = some o) (new : CellOk C (g.add p) H' p c) : RepO C (g.add p) H' (O ++ [c]) := by
  refine ⟨by show g.n + 1 = _; simp [R.n], fun a u e => hk a u (R.F a u e), fun l c' e => ?_, fun l hl => ?_, fun i j hi hj e => ?_⟩
  · by_cases q : l < g.n
    · rw [List.getElem?_append_left (by rw [← R.n]; exact q)] at e
      rw [G.add_ne q]
      obtain ⟨o, ho, _⟩ := (R.cell l c' e).some'
      exact ((R.cell l c' e).mono GLe.add).heap (by rw [ho, hk _ _ ho])
    · have hl : l < (O ++ [c]).length := (List.getElem?_eq_some_iff.mp e).1
      simp at hl
      have el : l = g.n := by have := R.n; omega
      subst el
      rw [G.add_at]
      rw [R.n, List.getElem?_concat_length] at e
      cases e
      exact new
  · by_cases q : l < g.n
    · rw [G.add_ne q]; exact R.fresh l q
    · have hl : l < g.n + 1 := hl
      have el : l = g.n := by omega
      subst el
      rw [G.add_at]
      exact R.Fnone hp
  · have hi : i < g.n + 1 := hi
    have hj : j < g.n + 1 := hj
    by_cases qi : i < g.n
    · by_cases qj : j < g.n
      · rw [G.add_ne qi, G.add_ne qj] at e
        exact R.inj i j qi qj e
      · have ej : j = g.n := by omega
        subst ej
        rw [G.add_ne qi, G.add_at] at e
        exact absurd e (R.ne hp qi)
    · have ei : i = g.n := by omega
      subst ei
      by_cases qj : j < g.n
      · rw [G.add_ne qj, G.add_at] at e
        exact absurd e.symm (R.ne hp qj)
      · omega
theorem Ext.add (R : RepO C g H O) {p : Addr} (hp : H p = none) (hk : ∀ a o, H a = some o → H' a = some o) : Ext g H (g.add p) H' :=
  ⟨GLe.add, fun a u e _ => hk a u e, fun l h h' => by
    have h' : l < g.n + 1 := h'
    have el : l = g.n := by omega
    subst el
    rw [G.add_at]; exact hp, fun l hl => by
    cases e : H (g.θ l) with
    | none => exact absurd e (R.trk hl)
    | some o => rw [hk _ _ e]; exact (fun z => nomatch z), fun _ _ h => .inl h⟩
/-- a cell is written -/
theorem RepO.set (R : RepO C g H O) {l : Nat} {o : HO} {c : Cell} (hl : l < g.n) (new : CellOk C g (upd H (g.θ l) o) (g.θ l) c) : RepO C g (upd H (g.θ l) o) (O.set l c) := by
  refine ⟨by simp [R.n], fun a u e => ?_, fun k c' e => ?_, R.fresh, R.inj⟩
  · have : a ≠ g.θ l := fun z => by have q := R.fresh l hl; rw [← z, e] at q; cases q
    rw [upd_ne this]; exact R.F a u e
  · by_cases q : l = k
    · subst q
      rw [List.getElem?_set_self (by rw [← R.n]; exact hl)] at e
      cases e
      exact new
    · rw [List.getElem?_set_ne q] at e
      have hk : k < g.n := by rw [R.n]; exact (List.getElem?_eq_some_iff.mp e).1
      refine (R.cell k c' e).heap ?_
      rw [upd_ne fun z => q (R.inj _ _ hl hk z.symm)]
theorem Ext.set (R : RepO C g H O) {l : Nat} {o : HO} (hl : l < g.n) : Ext g H g (upd H (g.θ l) o) :=
  ⟨GLe.refl g, fun a u e n => by rw [upd_ne (n l hl).symm]; exact e, fun l h h' => absurd h' (Nat.not_lt.mpr h), fun k hk => by
    by_cases q : k = l
    · subst q; rw [upd_same]; exact fun z => nomatch z
    · rw [upd_ne fun z => q (R.inj _ _ hk hl z)]; exact R.trk hk, fun _ _ h => .inl h⟩
end
/-- an error lies at the class's address, with its own dict -/
def ErOk (C : Ctx) (g : G) (H : Hp) (e : Er) (cv : Value) (dx : Option Addr) : Prop :=
  ∃ A, C.ec e.cls = some A ∧ cv = .ref A ∧ ((e.fs = [] ∧ dx = none) ∨ ∃ d vs, dx = some d ∧ e.fs ≠ [] ∧ H d = some (.xd vs) ∧ ShrF C g e.fs vs)
class Rel (α : Type) (β : outParam Type) where
  sh : Ctx → G → α → β → Prop
  mono : ∀ {C : Ctx} {g g' : G} {a : α} {b : β}, GLe g g' → sh C g a b → sh C g' a b
instance : Rel D V := ⟨fun C => Shr C.K, fun e h => Shr.mono e _ _ h⟩
instance : Rel (List D) (List V) := ⟨fun C => ShrL C.K, fun e h => ShrL.mono e _ _ h⟩
instance : Rel Bool Bool := ⟨fun _ _ a b => a = b, fun _ h => h⟩
section
variable {α β γ δ : Type} [Rel α β] [Rel γ δ]
def Post (C : Ctx) (W : WX) (σ : L2.St) (g : G) (H : Hp) (x : Res α) (Q : β → Hp → Prop) : Prop :=
  match x with
  | .ok d O => ∀ v g' H', Ext g H g' H' → RepO C g' H' O → Rel.sh C g' d v → Q v H'
  | .exc e O => ∀ cv dx g' H', Ext g H g' H' → RepO C g' H' O → ErOk C g' H' e cv dx → W cv dx σ H'
  | .bad => False
def PostS (C : Ctx) (W : WX) (g : G) (H : Hp) (x : SR) (E : Ends) : Prop :=
  match x with
  | .nx r O => ∀ σ' g' H', Ext g H g' H' → RepO C g' H' O → RepS C g' σ' r → E.nx σ' H'
  | .bk r O => ∀ σ' g' H', Ext g H g' H' → RepO C g' H' O → RepS C g' σ' r → E.bk σ' H'
  | .ct r O => ∀ σ' g' H', Ext g H g' H' → RepO C g' H' O → RepS C g' σ' r → E.ct σ' H'
  | .ret d O => ∀ v g' H', Ext g H g' H' → RepO C g' H' O → Shr C.K g' d v → E.rt v H'
  | .exc e r O => ∀ cv dx σ' g' H', Ext g H g' H' → RepO C g' H' O → RepS C g' σ' r → ErOk C g' H' e cv dx → W cv dx σ' H'
  | .bad => False
def Res.bind {α γ : Type} (x : Res α) (k : α → Sto → Res γ) : Res γ := match x with | .ok d O => k d O | .exc e O => .exc e O | .bad => .bad
def Res.bindS {α : Type} (x : Res α) (r : Rho) (k : α → Sto → SR) : SR := match x with | .ok d O => k d O | .exc e O => .exc e r O | .bad => .bad
def SR.bind (x : SR) (k : Rho → Sto → SR) : SR := match x with | .nx r O => k r O | .ret d O => .ret d O | .bk r O => .bk r O | .ct r O => .ct r O | .exc e r O => .exc e r O | .bad => .bad
/-- a reading asks no more than what the pure function gives -/
def Sat (C : Ctx) (W : WX) (te : L2.St → Hp → (β → Hp → Prop) → Prop) (f : Rho → Sto → Res α) : Prop :=
  ∀ g σ H r O, RepO C g H O → RepS C g σ r → ∀ Q, Post C W σ g H (f r O) Q → te σ H Q
def SatS (C : Ctx) (W : WX) (t : TS) (f : DS0) : Prop :=
  ∀ g σ H r O, RepO C g H O → RepS C g σ r → ∀ E, PostS C W g H (f r O) E → t E σ H
structure DE (C : Ctx) (X : Cx) (W : WX) (e : Expr) (f : DE0) : Prop where
  ex : ∃ te, PE X e te ∧ Sat C W te f
structure DT (C : Ctx) (X : Cx) (W : WX) (e : Expr) (f : Rho → Sto → Res Bool) : Prop where
  ex : ∃ te, PT X e te ∧ Sat C W te f
structure DA (C : Ctx) (X : Cx) (W : WX) (es : List Expr) (f : Rho → Sto → Res (List D)) : Prop where
  ex : ∃ te, PA X es te ∧ Sat C W te f
structure DS (C : Ctx) (X : Cx) (W : WX) (st : Stmt) (f : DS0) : Prop where
  ex : ∃ t, PS X st t ∧ SatS C W t f
structure DSs (C : Ctx) (X : Cx) (W : WX) (st : List Stmt) (f : DS0) : Prop where
  ex : ∃ t, PSs X st t ∧ SatS C W t f
section
variable {C : Ctx} {W : WX} {σ : L2.St} {g g' : G} {H H' : Hp} {r : Rho} {O : Sto}
theorem Post.shift {x : Res α} {Q : β → Hp → Prop} (e : Ext g H g' H') (h : Post C W σ g H x Q) : Post C W σ g' H' x Q := by
  cases x with
  | ok d2 O2 => exact fun v2 g2 H2 e2 => h v2 g2 H2 (e.trans e2)
  | exc er O2 => exact fun v2 d2 g2 H2 e2 => h v2 d2 g2 H2 (e.trans e2)
  | bad => exact h
theorem PostS.shift {x : SR} {E : Ends} (e : Ext g H g' H') (h : PostS C W g H x E) : PostS C W g' H' x E := by
  cases x with
  | nx d2 O2 => exact fun v2 g2 H2 e2 => h v2 g2 H2 (e.trans e2)
  | bk d2 O2 => exact fun v2 g2 H2 e2 => h v2 g2 H2 (e.trans e2)
  | ct d2 O2 => exact fun v2 g2 H2 e2 => h v2 g2 H2 (e.trans e2)
  | ret d2 O2 => exact fun v2 g2 H2 e2 => h v2 g2 H2 (e.trans e2)
  | exc er r O2 => exact fun v2 d2 s2 g2 H2 e2 => h v2 d2 s2 g2 H2 (e.trans e2)
  | bad => exact h
theorem Post.fin {a : α} {Q : β → Hp → Prop} {v : β} (R : RepO C g H O) (s : Rel.sh C g a v) (h : Post C W σ g H (.ok a O) Q) : Q v H := h v g H (Ext.refl R) R s
theorem Sat.seq {te : L2.St → Hp → (β → Hp → Prop) → Prop} {f : Rho → Sto → Res α} (p : Sat C W te f) (R : RepO C g H O) (S : RepS C g σ r) {k : α → Sto → Res γ} {Q : δ → Hp → Prop} {Q2 : β → Hp → Prop}
    (h : Post C W σ g H ((f r O).bind k) Q)
    (c : ∀ a O' v g' H', Ext g H g' H' → RepO C g' H' O' → RepS C g' σ r → Rel.sh C g' a v → Post C W σ g' H' (k a O') Q → Q2 v H') : te σ H Q2 := by
  refine p g σ H r O R S Q2 ?_
  cases q : f r O with
  | ok d O' =>
    rw [q] at h
    exact fun v g' H' e R' s => c d O' v g' H' e R' (S.mono e.le) s (Post.shift e h)
  | exc er O' => rw [q] at h; exact h
  | bad => rw [q] at h; exact h
theorem Sat.seqS {te : L2.St → Hp → (β → Hp → Prop) → Prop} {f : Rho → Sto → Res α} (p : Sat C W te f) (R : RepO C g H O) (S : RepS C g σ r) {k : α → Sto → SR} {E : Ends} {Q2 : β → Hp → Prop}
    (h : PostS C W g H ((f r O).bindS r k) E)
    (c : ∀ a O' v g' H', Ext g H g' H' → RepO C g' H' O' → RepS C g' σ r → Rel.sh C g' a v → PostS C W g' H' (k a O') E → Q2 v H') : te σ H Q2 := by
  refine p g σ H r O R S Q2 ?_
  cases q : f r O with
  | ok d O' =>
    rw [q] at h
    exact fun v g' H' e R' s => c d O' v g' H' e R' (S.mono e.le) s (PostS.shift e h)
  | exc er O' =>
    rw [q] at h
    exact fun cv dx g' H' e R' k => h cv dx σ g' H' e R' (S.mono e.le) k
  | bad => rw [q] at h; exact h
theorem SatS.seq {t : TS} {f : DS0} (p : SatS C W t f) (R : RepO C g H O) (S : RepS C g σ r) {k : Rho → Sto → SR} {E : Ends} {N : L2.St → Hp → Prop}
    (h : PostS C W g H ((f r O).bind k) E)
    (c : ∀ r' O' σ' g' H', Ext g H g' H' → RepO C g' H' O' → RepS C g' σ' r' → PostS C W g' H' (k r' O') E → N σ' H') : t { E with nx := N } σ H := by
  refine p g σ H r O R S _ ?_
  cases q : f r O with
  | nx r' O' => rw [q] at h; exact fun σ' g' H' e R' s => c r' O' σ' g' H' e R' s (PostS.shift e h)
  | ret d O' => rw [q] at h; exact h
  | bk d O' => rw [q] at h; exact h
  | ct d O' => rw [q] at h; exact h
  | exc e d O' => rw [q] at h; exact h
  | bad => rw [q] at h; exact h
end
end
end Dn
set_option Elab.async false
set_option linter.all false
set_option maxRecDepth 100000
set_option maxHeartbeats 2000000
namespace Dn
open PySem PySem.Spec PyProof.Rows L2
section
variable {C : Ctx} {X : Cx} {W : WX}
def varE (i : Nat) : DE0 := fun r O => match r[i]? with | some (some d) => .ok d O | _ => .bad
theorem d_var (i : Nat) {x : Str} {pos : Pos} (hN : X.N[i]? = some x := by rfl) (hv : Vis X.env.scope x := by first | exact Or.inl rfl | exact Or.inr (Or.inl rfl) | exact Or.inr (Or.inr rfl)) (hd : (x == ("__debug__" : Str)) = false := by decide)
    (hcd : (x == ("__classdict__" : Str)) = false := by decide) : DE C X W (.Name x pos) (varE i) := by
  refine ⟨tVar i, pe_var hN hv hd hcd, fun g σ H r O R S Q h => ?_⟩
  unfold varE at h
  split at h
  · rename_i d e
    obtain ⟨v, h1, h2⟩ := S.at' i d e
    exact ⟨v, h1, Post.fin R h2 h⟩
  · exact h.elim
def constE (d : D) : DE0 := fun _ O => .ok d O
theorem sat_c {d : D} {v : V} (h : ∀ g, Shr C.K g d v) : Sat C W (tC v) (constE d) := fun g σ H r O R S Q q => Post.fin R (h g) q
theorem d_int {i j pos} : DE C X W (.Constant (.int i) j pos) (constE (.int i)) := ⟨_, pe_int, sat_c fun _ => rfl⟩
theorem d_bl {b j pos} : DE C X W (.Constant (.bool b) j pos) (constE (.bl b)) := ⟨_, pe_bl, sat_c fun _ => rfl⟩
theorem d_non {j pos} : DE C X W (.Constant .none j pos) (constE .non) := ⟨_, pe_non, sat_c fun _ => rfl⟩
theorem d_str (l : List Nat) {x j pos} (hx : x = ⟨l.toArray⟩ := by first | rfl | decide +kernel) : DE C X W (.Constant (.str x) j pos) (constE (.str l)) := by
  subst hx
  exact ⟨_, pe_str, sat_c fun _ => rfl⟩
/-- a module's constant -/
theorem d_glob {x : Str} {d : D} {v : V} {u : Value} {pos : Pos} (hg : Gl X x) (hm : X.mg x = some u) (r : RelV v u) (s : ∀ g, Shr C.K g d v) (hd : (x == ("__debug__" : Str)) = false := by decide) : DE C X W (.Name x pos) (constE d) :=
  ⟨_, pe_glob hg hm r hd, sat_c s⟩
abbrev O2 := D → D → Sto → ER
abbrev O1 := D → Sto → ER
/-- a two-place reading asks no more than the pure operation gives -/
def Sat2 (C : Ctx) (W : WX) (r : R2) (f : O2) : Prop := ∀ g H O, RepO C g H O → ∀ a b x y, Shr C.K g a x → Shr C.K g b y → ∀ σ Q, Post C W σ g H (f a b O) Q → r x y H Q
def Sat1 (C : Ctx) (W : WX) (r : V → Hp → VK → Prop) (f : O1) : Prop := ∀ g H O, RepO C g H O → ∀ a x, Shr C.K g a x → ∀ σ Q, Post C W σ g H (f a O) Q → r x H Q
def op2 (f : O2) (fa fb : DE0) : DE0 := fun r O => (fa r O).bind fun a O1 => (fb r O1).bind fun b O2 => f a b O2
def op1 (f : O1) (fa : DE0) : DE0 := fun r O => (fa r O).bind fun a O1 => f a O1
theorem sat_op {r : R2} {f : O2} {ta tb : TE} {fa fb : DE0} (hr : Sat2 C W r f) (ha : Sat C W ta fa) (hb : Sat C W tb fb) : Sat C W (tOp r ta tb) (op2 f fa fb) := fun g σ H ρ O R S Q h =>
  ha.seq R S h fun a O1 x g1 H1 e1 R1 S1 s1 h1 => hb.seq R1 S1 h1 fun b O2 y g2 H2 e2 R2 S2 s2 h2 => hr g2 H2 O2 R2 a b x y (s1.mono e2.le) s2 σ Q h2
theorem sat_un {r : V → Hp → VK → Prop} {f : O1} {ta : TE} {fa : DE0} (hr : Sat1 C W r f) (ha : Sat C W ta fa) : Sat C W (tUn r ta) (op1 f fa) := fun g σ H ρ O R S Q h =>
  ha.seq R S h fun a O1 x g1 H1 e1 R1 S1 s1 h1 => hr g1 H1 O1 R1 a x s1 σ Q h1
variable {a b c e : Expr} {fa fb fc fe : DE0} {pos : Pos}
theorem d_op {op : Operator} {r : R2} {f : O2} (ho : OpR X (binaryOp op) r) (hr : Sat2 C W r f) (ha : DE C X W a fa) (hb : DE C X W b fb) : DE C X W (.BinOp a op b pos) (op2 f fa fb) :=
  let ⟨_, pa, sa⟩ := ha.ex; let ⟨_, pb, sb⟩ := hb.ex; ⟨_, pe_op ho pa pb, sat_op hr sa sb⟩
theorem d_un {op : UnaryOp} {r : V → Hp → VK → Prop} {f : O1} (ho : UnR X (unaryOp op) r) (hr : Sat1 C W r f) (ha : DE C X W a fa) : DE C X W (.UnaryOp op a pos) (op1 f fa) :=
  let ⟨_, pa, sa⟩ := ha.ex; ⟨_, pe_un ho pa, sat_un hr sa⟩
theorem d_cmp {op : CmpOp} {r : R2} {f : O2} (ho : OpR X (compareOp op) r) (hr : Sat2 C W r f) (ha : DE C X W a fa) (hb : DE C X W b fb) (hm : behindInMarks op b = false := by first | exact nomark _ | rfl) : DE C X W (.Compare a [op] [b] pos) (op2 f fa fb) :=
  let ⟨_, pa, sa⟩ := ha.ex; let ⟨_, pb, sb⟩ := hb.ex; ⟨_, pe_cmpR ho pa pb hm, sat_op hr sa sb⟩
def asB (d : D) (O : Sto) : Res Bool := match d with | .bl b => .ok b O | _ => .bad
/-- a value's truth -/
def truD (d : D) (O : Sto) : Res Bool := match d with
  | .non => .ok false O
  | .bl b => .ok b O
  | .int i => .ok (i != 0) O
  | .str x => if x.length ≤ sizeLine then .ok (!x.isEmpty) O else .bad
  | .tup ds => .ok (!ds.isEmpty) O
  | .lst ds => .ok (!ds.isEmpty) O
  | .scr ds => .ok (!ds.isEmpty) O
  | .ob l => match O[l]? with | some (.lst ds) => .ok (!ds.isEmpty) O | some (.dic kvs) => .ok (!kvs.isEmpty) O | _ => .bad
theorem shrL_len {K : PySem.W.Frag} {g : G} : ∀ {ds : List D} {vs : List V}, ShrL K g ds vs → vs.length = ds.length
  | [], vs, h => by simp only [ShrL] at h; subst h; rfl
  | d :: ds, vs, h => by
    simp only [ShrL] at h
    obtain ⟨v, q, rfl, _, h3⟩ := h
    simp [shrL_len h3]
theorem shrL_emp {K : PySem.W.Frag} {g : G} {ds : List D} {vs : List V} (h : ShrL K g ds vs) : vs.isEmpty = ds.isEmpty := by
  have := shrL_len h
  cases ds <;> cases vs <;> simp_all
theorem shrK_emp {K : PySem.W.Frag} {g : G} {ds : List (DKey × D)} {vs : List (Key × V)} (h : ShrK K g ds vs) : vs.isEmpty = ds.isEmpty := by
  cases ds with
  | nil => simp only [ShrK] at h; subst h; rfl
  | cons p r => simp only [ShrK] at h; obtain ⟨v, q, rfl, _⟩ := h; rfl
theorem strlen (x : List Nat) : (⟨x.toArray⟩ : Str).length = x.length := by simp [Str.length]
theorem tru_of {g : G} {H : Hp} {O : Sto} (R : RepO C g H O) {d : D} {v : V} (s : Shr C.K g d v) {k : Bool} {O' : Sto} (h : truD d O = .ok k O') : O' = O ∧ TruV C.K v H k := by
  cases d with
  | non => simp only [truD, Res.ok.injEq] at h; obtain ⟨rfl, rfl⟩ := h; cases s; exact ⟨rfl, rfl⟩
  | bl b => simp only [truD, Res.ok.injEq] at h; obtain ⟨rfl, rfl⟩ := h; cases s; exact ⟨rfl, rfl⟩
  | int i => simp only [truD, Res.ok.injEq] at h; obtain ⟨rfl, rfl⟩ := h; cases s; exact ⟨rfl, rfl⟩
  | str x =>
    simp only [truD] at h
    split at h
    · rename_i hl
      simp only [Res.ok.injEq] at h
      obtain ⟨rfl, rfl⟩ := h
      cases s
      refine ⟨rfl, ?_, ?_⟩
      · rw [strlen]; exact hl
      · rw [strlen]; cases x <;> simp; omega
    · cases h
  | tup ds =>
    simp only [truD, Res.ok.injEq] at h; obtain ⟨rfl, rfl⟩ := h
    simp only [Shr] at s
    obtain ⟨a, vs, rfl, h2, h3⟩ := s
    exact ⟨rfl, .inr (.inl ⟨vs, ex_t R.F h2, by rw [shrL_emp h3]⟩)⟩
  | lst ds =>
    simp only [truD, Res.ok.injEq] at h; obtain ⟨rfl, rfl⟩ := h
    simp only [Shr] at s
    obtain ⟨a, vs, rfl, h2, h3⟩ := s
    exact ⟨rfl, .inl ⟨vs, SqL.of (R.F _ _ h2), by rw [shrL_emp h3]⟩⟩
  | scr ds =>
    simp only [truD, Res.ok.injEq] at h; obtain ⟨rfl, rfl⟩ := h
    simp only [Shr] at s
    obtain ⟨a, vs, rfl, h2, h3⟩ := s
    exact ⟨rfl, .inl ⟨vs, ex_l R.F h2, by rw [shrL_emp h3]⟩⟩
  | ob l =>
    simp only [truD] at h
    simp only [Shr] at s
    obtain ⟨rfl, hl⟩ := s
    split at h
    · rename_i ds e
      simp only [Res.ok.injEq] at h; obtain ⟨rfl, rfl⟩ := h
      obtain ⟨vs, h1, h2⟩ := R.cell l _ e
      exact ⟨rfl, .inl ⟨vs, SqL.of h1, by rw [shrL_emp h2]⟩⟩
    · rename_i ds e
      simp only [Res.ok.injEq] at h; obtain ⟨rfl, rfl⟩ := h
      obtain ⟨vs, h1, h2⟩ := R.cell l _ e
      exact ⟨rfl, .inr (.inr ⟨vs, h1, by rw [shrK_emp h2]⟩)⟩
    · cases h
theorem truD_ne (d : D) (O : Sto) (e : Er) (O' : Sto) : truD d O ≠ .exc e O' := by
  unfold truD
  split <;> (try split) <;> simp
/-- by the value's truth -/
def truT (f : DE0) : Rho → Sto → Res Bool := fun r O => (f r O).bind truD
theorem sat_tru {ta : TE} (sa : Sat C W ta fa) {T : PySem.W.Frag} (hT : T = C.K) : Sat C W (fun σ H Q => ta σ H fun x H' => ∃ k, TruV T x H' k ∧ Q k H') (truT fa) := fun g σ H r O R S Q h =>
  sa.seq R S h fun a O1 x g1 H1 e1 R1 S1 s1 h1 => by
    subst hT
    cases q : truD a O1 with
    | ok k O2 =>
      obtain ⟨rfl, t⟩ := tru_of R1 s1 q
      rw [q] at h1
      exact ⟨k, t, Post.fin R1 rfl h1⟩
    | exc e O2 => exact absurd q (truD_ne _ _ _ _)
    | bad => rw [q] at h1; exact h1.elim
theorem t_tru (hK : X.K = C.K) (h : DE C X W a fa) (he : ∀ whole, isTrue a X.env whole = (do let v ← whole; standAt a.pos; holding [v] (truthy v)) := by intro _; rfl) : DT C X W a (truT fa) :=
  let ⟨_, pa, sa⟩ := h.ex; ⟨_, pt_truth pa he, sat_tru sa hK⟩
/-- a comparison's -/
def cmpT (f : O2) (fa fb : DE0) : Rho → Sto → Res Bool := fun r O => (op2 f fa fb r O).bind asB
theorem sat_asB {ta : TE} (sa : Sat C W ta fa) : Sat C W (fun σ H Q => ta σ H fun x H' => ∃ k, x = .bl k ∧ Q k H') (fun r O => (fa r O).bind asB) := fun g σ H r O R S Q h =>
  sa.seq R S h fun d O1 x g1 H1 e1 R1 S1 s1 h1 => by
    cases d with
    | bl k => exact ⟨k, s1, Post.fin R1 rfl h1⟩
    | _ => exact h1.elim
theorem t_cmp {op : CmpOp} {r : R2} {f : O2} (ho : OpR X (compareOp op) r) (hr : Sat2 C W r f) (ha : DE C X W a fa) (hb : DE C X W b fb) (hm : behindInMarks op b = false := by first | exact nomark _ | rfl) : DT C X W (.Compare a [op] [b] pos) (cmpT f fa fb) :=
  let ⟨_, pa, sa⟩ := ha.ex; let ⟨_, pb, sb⟩ := hb.ex; ⟨_, pt_cmpR ho pa pb hm, sat_asB (sat_op hr sa sb)⟩
/-- a op b op' c -/
def chainE (f f' : O2) (fa fb fc : DE0) : DE0 := fun r O => (fa r O).bind fun a O1 => (fb r O1).bind fun b O2 => (f a b O2).bind fun z O3 => (asB z O3).bind fun k O4 => if k then (fc r O4).bind fun c O5 => f' b c O5 else .ok (.bl false) O4
def chainT (f f' : O2) (fa fb fc : DE0) : Rho → Sto → Res Bool := fun r O => (chainE f f' fa fb fc r O).bind asB
theorem sat_chain {q q' : R2} {f f' : O2} {ta tb tc : TE} (hr : Sat2 C W q f) (hr' : Sat2 C W q' f') (ha : Sat C W ta fa) (hb : Sat C W tb fb) (hc : Sat C W tc fc) :
    Sat C W (tChain q q' ta tb tc) (chainE f f' fa fb fc) := fun g σ H r O R S Q h => by
  refine ha.seq R S h fun a O1 x g1 H1 e1 R1 S1 s1 h1 => ?_
  refine hb.seq R1 S1 h1 fun b O2 y g2 H2 e2 R2 S2 s2 h2 => ?_
  refine hr g2 H2 O2 R2 a b x y (s1.mono e2.le) s2 σ _ ?_
  cases qq : f a b O2 with
  | ok z O3 =>
    rw [qq] at h2
    refine fun v g3 H3 e3 R3 s3 => ?_
    cases z with
    | bl k =>
      refine ⟨k, s3, ?_⟩
      have h3 := Post.shift e3 h2
      cases k with
      | true =>
        rw [if_pos rfl]
        exact Sat.seq hc R3 (S2.mono e3.le) h3 fun c O5 z g5 H5 e5 R5 S5 s5 h5 => hr' g5 H5 O5 R5 b c y z (Shr.mono (e3.le.trans e5.le) _ _ s2) s5 σ Q h5
      | false =>
        rw [if_neg Bool.false_ne_true]
        exact Post.fin R3 rfl h3
    | _ => exact h2.elim
  | exc e O3 => rw [qq] at h2; exact h2
  | bad => rw [qq] at h2; exact h2
theorem d_chain {op op' : CmpOp} {q q' : R2} {f f' : O2} (ho : OpR X (compareOp op) q) (ho' : OpR X (compareOp op') q') (hr : Sat2 C W q f) (hr' : Sat2 C W q' f') (ha : DE C X W a fa) (hb : DE C X W b fb) (hc : DE C X W c fc)
    (hm : lastMarks [op, op'] [b, c] = false := by with_unfolding_all rfl) : DE C X W (.Compare a [op, op'] [b, c] pos) (chainE f f' fa fb fc) :=
  let ⟨_, pa, sa⟩ := ha.ex; let ⟨_, pb, sb⟩ := hb.ex; let ⟨_, pc, sc⟩ := hc.ex; ⟨_, pe_chain ho ho' pa pb pc hm, sat_chain hr hr' sa sb sc⟩
theorem t_chain {op op' : CmpOp} {q q' : R2} {f f' : O2} (ho : OpR X (compareOp op) q) (ho' : OpR X (compareOp op') q') (hr : Sat2 C W q f) (hr' : Sat2 C W q' f') (ha : DE C X W a fa) (hb : DE C X W b fb) (hc : DE C X W c fc)
    (hm : lastMarks [op, op'] [b, c] = false := by with_unfolding_all rfl) : DT C X W (.Compare a [op, op'] [b, c] pos) (chainT f f' fa fb fc) :=
  let ⟨_, pa, sa⟩ := ha.ex; let ⟨_, pb, sb⟩ := hb.ex; let ⟨_, pc, sc⟩ := hc.ex; ⟨_, pt_chain ho ho' pa pb pc hm, sat_asB (sat_chain hr hr' sa sb sc)⟩
def andT (f g : Rho → Sto → Res Bool) : Rho → Sto → Res Bool := fun r O => (f r O).bind fun k O1 => if k then g r O1 else .ok false O1
def orT (f g : Rho → Sto → Res Bool) : Rho → Sto → Res Bool := fun r O => (f r O).bind fun k O1 => if k then .ok true O1 else g r O1
def notT (f : Rho → Sto → Res Bool) : Rho → Sto → Res Bool := fun r O => (f r O).bind fun k O1 => .ok (!k) O1
/-- a test whatever its whole is -/
structure DW (C : Ctx) (X : Cx) (W : WX) (e : Expr) (f : Rho → Sto → Res Bool) : Prop where
  ex : ∃ te, PW X e te ∧ Sat C W te f
variable {ff gg : Rho → Sto → Res Bool} {rest : List Expr}
theorem DW.t (h : DW C X W e ff) : DT C X W e ff := let ⟨_, p, s⟩ := h.ex; ⟨_, p.pt, s⟩
theorem w_and1 (h : DT C X W a ff) : DW C X W (.BoolOp .And [a] pos) ff := let ⟨_, p, s⟩ := h.ex; ⟨_, pw_and1 p, s⟩
theorem w_or1 (h : DT C X W a ff) : DW C X W (.BoolOp .Or [a] pos) ff := let ⟨_, p, s⟩ := h.ex; ⟨_, pw_or1 p, s⟩
theorem w_and (ha : DT C X W a ff) (hb : DW C X W (.BoolOp .And (b :: rest) pos) gg) : DW C X W (.BoolOp .And (a :: b :: rest) pos) (andT ff gg) :=
  let ⟨_, pa, sa⟩ := ha.ex; let ⟨_, pb, sb⟩ := hb.ex; ⟨_, pw_and pa pb, fun g σ H r O R S Q h => sa.seq R S h fun k O1 k' g1 H1 e1 R1 S1 s1 h1 => by
    cases s1
    cases k with
    | true => rw [if_pos rfl]; exact sb g1 σ H1 r O1 R1 S1 Q h1
    | false => rw [if_neg Bool.false_ne_true]; exact Post.fin R1 rfl h1⟩
theorem w_or (ha : DT C X W a ff) (hb : DW C X W (.BoolOp .Or (b :: rest) pos) gg) : DW C X W (.BoolOp .Or (a :: b :: rest) pos) (orT ff gg) :=
  let ⟨_, pa, sa⟩ := ha.ex; let ⟨_, pb, sb⟩ := hb.ex; ⟨_, pw_or pa pb, fun g σ H r O R S Q h => sa.seq R S h fun k O1 k' g1 H1 e1 R1 S1 s1 h1 => by
    cases s1
    cases k with
    | true => rw [if_pos rfl]; exact Post.fin R1 rfl h1
    | false => rw [if_neg Bool.false_ne_true]; exact sb g1 σ H1 r O1 R1 S1 Q h1⟩
theorem t_not (ha : DT C X W a ff) : DT C X W (.UnaryOp .Not a pos) (notT ff) :=
  let ⟨_, pa, sa⟩ := ha.ex; ⟨_, pt_not pa, fun g σ H r O R S Q h => sa.seq R S h fun k O1 k' g1 H1 e1 R1 S1 s1 h1 => by
    cases s1
    exact Post.fin R1 rfl h1⟩
/-- .. as values, by truth -/
def andE (f g : DE0) : DE0 := fun r O => (f r O).bind fun d O1 => (truD d O1).bind fun k O2 => if k then g r O2 else .ok d O2
def orE (f g : DE0) : DE0 := fun r O => (f r O).bind fun d O1 => (truD d O1).bind fun k O2 => if k then .ok d O2 else g r O2
def notE (f : DE0) : DE0 := fun r O => (f r O).bind fun d O1 => (truD d O1).bind fun k O2 => .ok (.bl (!k)) O2
theorem d_one {op} (h : DE C X W a fa) : DE C X W (.BoolOp op [a] pos) fa := let ⟨_, p, s⟩ := h.ex; ⟨_, pe_one p, s⟩
theorem tru_post {γ δ : Type} [Rel γ δ] {g : G} {H : Hp} {O : Sto} {σ : L2.St} (R : RepO C g H O) {d : D} {v : V} (s : Shr C.K g d v) {k : Bool → Sto → Res γ} {Q : δ → Hp → Prop} (h : Post C W σ g H ((truD d O).bind k) Q) :
    ∃ b, TruV C.K v H b ∧ Post C W σ g H (k b O) Q := by
  cases q : truD d O with
  | ok b O2 =>
    obtain ⟨rfl, t⟩ := tru_of R s q
    rw [q] at h
    exact ⟨b, t, h⟩
  | exc e O2 => exact absurd q (truD_ne _ _ _ _)
  | bad => rw [q] at h; exact h.elim
theorem d_and (hK : X.K = C.K) (ha : DE C X W a fa) (hb : DE C X W (.BoolOp .And (b :: rest) pos) fb) : DE C X W (.BoolOp .And (a :: b :: rest) pos) (andE fa fb) :=
  let ⟨_, pa, sa⟩ := ha.ex; let ⟨_, pb, sb⟩ := hb.ex; ⟨_, pe_andT pa pb, fun g σ H r O R S Q h => sa.seq R S h fun d O1 v g1 H1 e1 R1 S1 s1 h1 => by
    obtain ⟨k, t, h2⟩ := tru_post R1 s1 h1
    refine ⟨k, hK ▸ t, ?_⟩
    cases k with
    | true => rw [if_pos rfl]; exact sb g1 σ H1 r O1 R1 S1 Q h2
    | false => rw [if_neg Bool.false_ne_true]; exact Post.fin R1 s1 h2⟩
theorem d_or (hK : X.K = C.K) (ha : DE C X W a fa) (hb : DE C X W (.BoolOp .Or (b :: rest) pos) fb) : DE C X W (.BoolOp .Or (a :: b :: rest) pos) (orE fa fb) :=
  let ⟨_, pa, sa⟩ := ha.ex; let ⟨_, pb, sb⟩ := hb.ex; ⟨_, pe_orT pa pb, fun g σ H r O R S Q h => sa.seq R S h fun d O1 v g1 H1 e1 R1 S1 s1 h1 => by
    obtain ⟨k, t, h2⟩ := tru_post R1 s1 h1
    refine ⟨k, hK ▸ t, ?_⟩
    cases k with
    | true => rw [if_pos rfl]; exact Post.fin R1 s1 h2
    | false => rw [if_neg Bool.false_ne_true]; exact sb g1 σ H1 r O1 R1 S1 Q h2⟩
theorem d_not (hK : X.K = C.K) (ha : DE C X W a fa) : DE C X W (.UnaryOp .Not a pos) (notE fa) :=
  let ⟨_, pa, sa⟩ := ha.ex; ⟨_, pe_notT pa, fun g σ H r O R S Q h => sa.seq R S h fun d O1 v g1 H1 e1 R1 S1 s1 h1 => by
    obtain ⟨k, t, h2⟩ := tru_post R1 s1 h1
    exact ⟨k, hK ▸ t, Post.fin R1 rfl h2⟩⟩
def ifE (c : Rho → Sto → Res Bool) (f g : DE0) : DE0 := fun r O => (c r O).bind fun k O1 => if k then f r O1 else g r O1
theorem d_ifExp (hc : DT C X W c ff) (ha : DE C X W a fa) (hb : DE C X W b fb) : DE C X W (.IfExp c a b pos) (ifE ff fa fb) :=
  let ⟨_, pc, sc⟩ := hc.ex; let ⟨_, pa, sa⟩ := ha.ex; let ⟨_, pb, sb⟩ := hb.ex; ⟨_, pe_ifExp pc pa pb, fun g σ H r O R S Q h => sc.seq R S h fun k O1 k' g1 H1 e1 R1 S1 s1 h1 => by
    cases s1
    cases k with
    | true => rw [if_pos rfl]; exact sa g1 σ H1 r O1 R1 S1 Q h1
    | false => rw [if_neg Bool.false_ne_true]; exact sb g1 σ H1 r O1 R1 S1 Q h1⟩
def nilA : Rho → Sto → Res (List D) := fun _ O => .ok [] O
def consA (f : DE0) (g : Rho → Sto → Res (List D)) : Rho → Sto → Res (List D) := fun r O => (f r O).bind fun d O1 => (g r O1).bind fun ds O2 => .ok (d :: ds) O2
variable {es : List Expr} {fas : Rho → Sto → Res (List D)}
theorem a_nil : DA C X W [] nilA := ⟨_, pa_nil, fun g σ H r O R S Q h => Post.fin R (by show ShrL _ _ [] []; simp [ShrL]) h⟩
theorem a_cons (ha : DE C X W e fe) (hr : DA C X W es fas) (hs : starEach (e :: es) X.env = (false, eval e X.env) :: starEach es X.env := by rfl) : DA C X W (e :: es) (consA fe fas) :=
  let ⟨_, pa, sa⟩ := ha.ex; let ⟨_, pb, sb⟩ := hr.ex; ⟨_, pa_cons pa pb hs, fun g σ H r O R S Q h => sa.seq R S h fun d O1 v g1 H1 e1 R1 S1 s1 h1 =>
    sb.seq R1 S1 h1 fun ds O2 vs g2 H2 e2 R2 S2 s2 h2 => Post.fin R2 (by
      show ShrL _ _ (d :: ds) (v :: vs)
      simp only [ShrL]
      exact ⟨v, vs, rfl, s1.mono e2.le, s2⟩) h2⟩
/-- a new list: frozen, or a cell -/
def mkL (m : Bool) (ds : List D) (O : Sto) : ER := if m then .ok (.ob O.length) (O ++ [.lst ds]) else .ok (.lst ds) O
theorem new_tup {g : G} {H : Hp} {O : Sto} {σ : L2.St} {ds : List D} {vs : List V} {Q : VK} (R : RepO C g H O) (s : ShrL C.K g ds vs) (h : Post C W σ g H (.ok (D.tup ds) O) Q) {p : Addr} (hp : H p = none) : Q (.ref p) (upd H p (.tup vs)) := by
  refine h _ (g.frz p (.tup vs)) _ (Ext.freeze R hp) (R.frz hp) ?_
  show Shr _ _ (.tup ds) _
  simp only [Shr]
  exact ⟨p, vs, rfl, SqT.of upd_same, ShrL.mono (GLe.frz (R.Fnone hp)) _ _ s⟩
theorem new_lst {m : Bool} {g : G} {H : Hp} {O : Sto} {σ : L2.St} {ds : List D} {vs : List V} {Q : VK} (R : RepO C g H O) (s : ShrL C.K g ds vs) (h : Post C W σ g H (mkL m ds O) Q) {p : Addr} (hp : H p = none) : Q (.ref p) (upd H p (.lst vs)) := by
  cases m with
  | false =>
    refine h _ (g.frz p (.lst vs)) _ (Ext.freeze R hp) (R.frz hp) ?_
    show Shr _ _ (.lst ds) _
    simp only [Shr]
    exact ⟨p, vs, rfl, upd_same, ShrL.mono (GLe.frz (R.Fnone hp)) _ _ s⟩
  | true =>
    have hk : ∀ a o, H a = some o → upd H p (.lst vs) a = some o := fun a o e => by rw [upd_ne (ne_of_none e hp)]; exact e
    refine h _ (g.add p) _ (Ext.add R hp hk) (R.add hp hk ⟨vs, upd_same, ShrL.mono GLe.add _ _ s⟩) ?_
    show Shr _ _ (.ob O.length) _
    simp only [Shr]
    rw [← R.n, G.add_at]
    exact ⟨rfl, Nat.lt_succ_self _⟩
def tupE (f : Rho → Sto → Res (List D)) : DE0 := fun r O => (f r O).bind fun ds O1 => if ds.length ≤ sizeLine then .ok (.tup ds) O1 else .bad
def lstE (m : Bool) (f : Rho → Sto → Res (List D)) : DE0 := fun r O => (f r O).bind fun ds O1 => if ds.length ≤ sizeLine then mkL m ds O1 else .bad
theorem d_tup {x1} (h : DA C X W es fas) : DE C X W (.Tuple es x1 pos) (tupE fas) :=
  let ⟨_, pa, sa⟩ := h.ex; ⟨_, pe_tup pa, fun g σ H r O R S Q h => sa.seq R S h fun ds O1 vs g1 H1 e1 R1 S1 s1 h1 => by
    split at h1
    · rename_i hl
      exact ⟨by rw [shrL_len s1]; exact hl, fun p hp => new_tup R1 s1 h1 hp⟩
    · exact h1.elim⟩
theorem d_lst (m : Bool) (h : DA C X W es fas) : DE C X W (.List es pos) (lstE m fas) :=
  let ⟨_, pa, sa⟩ := h.ex; ⟨_, pe_lst pa, fun g σ H r O R S Q h => sa.seq R S h fun ds O1 vs g1 H1 e1 R1 S1 s1 h1 => by
    split at h1
    · rename_i hl
      exact ⟨by rw [shrL_len s1]; exact hl, fun p hp => new_lst R1 s1 h1 hp⟩
    · exact h1.elim⟩
end
end Dn
set_option Elab.async false
set_option linter.all false
set_option maxRecDepth 100000
set_option maxHeartbeats 2000000
namespace Dn
open PySem PySem.Spec PyProof.Rows L2
section
variable {C : Ctx} {X : Cx} {W : WX}
/-- a list proper: frozen or a cell -/
def listS (d : D) (O : Sto) : Option (List D) := match d with
  | .lst ds => some ds
  | .ob l => match O[l]? with | some (.lst ds) => some ds | _ => none
  | _ => none
/-- any list that is read -/
def listR (d : D) (O : Sto) : Option (List D) := match d with
  | .scr ds => some ds
  | d => listS d O
def seqR (d : D) (O : Sto) : Option (List D) := match d with
  | .tup ds => some ds
  | d => listR d O
section
variable {g : G} {H : Hp} {O : Sto} {d : D} {v : V} {ds : List D}
theorem listS_of (R : RepO C g H O) (s : Shr C.K g d v) (h : listS d O = some ds) : ∃ a vs, v = .ref a ∧ H a = some (.lst vs) ∧ ShrL C.K g ds vs := by
  unfold listS at h
  split at h
  · cases h
    simp only [Shr] at s
    obtain ⟨a, vs, h1, h2, h3⟩ := s
    exact ⟨a, vs, h1, R.F _ _ h2, h3⟩
  · simp only [Shr] at s
    split at h
    · rename_i e
      cases h
      obtain ⟨vs, h1, h2⟩ := R.cell _ _ e
      exact ⟨_, vs, s.1, h1, h2⟩
    · cases h
  · cases h
theorem listR_of (R : RepO C g H O) (s : Shr C.K g d v) (h : listR d O = some ds) : ∃ a vs, v = .ref a ∧ SqL C.K H a vs ∧ ShrL C.K g ds vs := by
  unfold listR at h
  split at h
  · cases h
    simp only [Shr] at s
    obtain ⟨a, vs, h1, h2, h3⟩ := s
    exact ⟨a, vs, h1, ex_l R.F h2, h3⟩
  · obtain ⟨a, vs, h1, h2, h3⟩ := listS_of R s h
    exact ⟨a, vs, h1, SqL.of h2, h3⟩
theorem seqR_of (R : RepO C g H O) (s : Shr C.K g d v) (h : seqR d O = some ds) : ∃ a vs, v = .ref a ∧ (SqL C.K H a vs ∨ SqT C.K H a vs) ∧ ShrL C.K g ds vs := by
  unfold seqR at h
  split at h
  · cases h
    simp only [Shr] at s
    obtain ⟨a, vs, h1, h2, h3⟩ := s
    exact ⟨a, vs, h1, .inr (ex_t R.F h2), h3⟩
  · obtain ⟨a, vs, h1, h2, h3⟩ := listR_of R s h
    exact ⟨a, vs, h1, .inl h2, h3⟩
end
theorem shrL_append {K : PySem.W.Frag} {g : G} : ∀ {xs ys : List D} {vs ws : List V}, ShrL K g xs vs → ShrL K g ys ws → ShrL K g (xs ++ ys) (vs ++ ws)
  | [], ys, vs, ws, h, k => by simp only [ShrL] at h; subst h; exact k
  | x :: xs, ys, vs, ws, h, k => by
    simp only [ShrL] at h
    obtain ⟨v, r, rfl, h2, h3⟩ := h
    simp only [List.cons_append, ShrL]
    exact ⟨v, r ++ ws, rfl, h2, shrL_append h3 k⟩
theorem shrL_get {K : PySem.W.Frag} {g : G} : ∀ {xs : List D} {vs : List V} {i : Nat} {d : D}, ShrL K g xs vs → xs[i]? = some d → ∃ v, vs[i]? = some v ∧ Shr K g d v
  | [], vs, i, d, h, e => by simp at e
  | x :: xs, vs, 0, d, h, e => by
    simp only [ShrL] at h
    obtain ⟨v, r, rfl, h2, h3⟩ := h
    simp at e; subst e
    exact ⟨v, rfl, h2⟩
  | x :: xs, vs, i + 1, d, h, e => by
    simp only [ShrL] at h
    obtain ⟨v, r, rfl, h2, h3⟩ := h
    obtain ⟨w, q1, q2⟩ := shrL_get (i := i) h3 (by simpa using e)
    exact ⟨w, by simpa using q1, q2⟩
theorem shrL_drop {K : PySem.W.Frag} {g : G} : ∀ {xs : List D} {vs : List V} (n : Nat), ShrL K g xs vs → ShrL K g (xs.drop n) (vs.drop n)
  | xs, vs, 0, h => h
  | [], vs, n + 1, h => by simp only [ShrL] at h; subst h; simp [ShrL]
  | x :: xs, vs, n + 1, h => by
    simp only [ShrL] at h
    obtain ⟨v, r, rfl, h2, h3⟩ := h
    exact shrL_drop n h3
theorem shrL_take {K : PySem.W.Frag} {g : G} : ∀ {xs : List D} {vs : List V} (n : Nat), ShrL K g xs vs → ShrL K g (xs.take n) (vs.take n)
  | xs, vs, 0, h => by simp [ShrL]
  | [], vs, n + 1, h => by simp only [ShrL] at h; subst h; simp [ShrL]
  | x :: xs, vs, n + 1, h => by
    simp only [ShrL] at h
    obtain ⟨v, r, rfl, h2, h3⟩ := h
    simp only [List.take_succ_cons, ShrL]
    exact ⟨v, r.take n, rfl, h2, shrL_take n h3⟩
theorem shrL_set {K : PySem.W.Frag} {g : G} {d : D} {v : V} (s : Shr K g d v) : ∀ {xs : List D} {vs : List V} (n : Nat), ShrL K g xs vs → ShrL K g (xs.set n d) (vs.set n v)
  | [], vs, n, h => by simp only [ShrL] at h; subst h; simp [ShrL]
  | x :: xs, vs, 0, h => by
    simp only [ShrL] at h
    obtain ⟨w, r, rfl, h2, h3⟩ := h
    simp only [List.set_cons_zero, ShrL]
    exact ⟨v, r, rfl, s, h3⟩
  | x :: xs, vs, n + 1, h => by
    simp only [ShrL] at h
    obtain ⟨w, r, rfl, h2, h3⟩ := h
    simp only [List.set_cons_succ, ShrL]
    exact ⟨w, r.set n v, rfl, h2, shrL_set s n h3⟩
theorem shrL_ints {K : PySem.W.Frag} {g : G} : ∀ (ns : List Int), ShrL K g (ns.map D.int) (ns.map V.int)
  | [] => by simp [ShrL]
  | n :: ns => by
    simp only [List.map_cons, ShrL]
    exact ⟨_, _, rfl, rfl, shrL_ints ns⟩
theorem shrL_mem {K : PySem.W.Frag} {g : G} {xs : List D} {vs : List V} (h : ShrL K g xs vs) {P : D → Prop} {Q : V → Prop} (c : ∀ d v, d ∈ xs → Shr K g d v → P d → Q v) (a : ∀ d ∈ xs, P d) : ∀ v ∈ vs, Q v := by
  induction xs generalizing vs with
  | nil => simp only [ShrL] at h; subst h; intro v hv; cases hv
  | cons x xs ih =>
    simp only [ShrL] at h
    obtain ⟨w, r, rfl, h2, h3⟩ := h
    intro v hv
    rcases List.mem_cons.mp hv with rfl | hv
    · exact c x _ List.mem_cons_self h2 (a x List.mem_cons_self)
    · exact ih h3 (fun d v m => c d v (List.mem_cons_of_mem _ m)) (fun d m => a d (List.mem_cons_of_mem _ m)) v hv
theorem str_app (x y : List Nat) : (⟨x.toArray⟩ : Str) ++ (⟨y.toArray⟩ : Str) = ⟨(x ++ y).toArray⟩ := by
  apply TL.ext_tl
  rw [TL.tl_append]
def addD (m : Bool) : O2 := fun a b O => match a, b with
  | .int i, .int j => .ok (.int (i + j)) O
  | .str x, .str y => if x.length + y.length ≤ sizeLine then .ok (.str (x ++ y)) O else .bad
  | .tup xs, .tup ys => if xs.length + ys.length ≤ sizeLine then .ok (.tup (xs ++ ys)) O else .bad
  | a, b => match listS a O, listS b O with
    | some xs, some ys => if xs.length + ys.length ≤ sizeLine then mkL m (xs ++ ys) O else .bad
    | _, _ => .bad
def rAddD (K : PySem.W.Frag) : R2 := fun x y H Q => (rI0 (fun i j => .int (i + j))) x y H Q ∨ (∃ i j, x = .str i ∧ y = .str j ∧ i.length + j.length ≤ sizeLine ∧ Q (.str (i ++ j)) H) ∨ rCatA K x y H Q ∨ rCat x y H Q
theorem op_addD : OpR X (binaryOp .Add) (rAddD X.K) := op_add.or (op_add_str.or (op_catA.or op_cat))
theorem s_add (m : Bool) : Sat2 C W (rAddD C.K) (addD m) := by
  intro g H O R a b x y sx sy σ Q h
  unfold addD at h
  split at h
  · cases sx; cases sy
    exact .inl ⟨_, _, rfl, rfl, Post.fin R rfl h⟩
  · cases sx; cases sy
    split at h
    · rename_i hl
      refine .inr (.inl ⟨_, _, rfl, rfl, by rw [strlen, strlen]; exact hl, ?_⟩)
      refine Post.fin (v := V.str _) R ?_ h
      show V.str _ = sV _
      rw [str_app]; rfl
    · exact h.elim
  · rename_i xs ys
    split at h
    · rename_i hl
      simp only [Shr] at sx sy
      obtain ⟨a, vs, rfl, a2, a3⟩ := sx
      obtain ⟨b, ws, rfl, b2, b3⟩ := sy
      have e1 := shrL_len a3
      have e2 := shrL_len b3
      refine .inr (.inr (.inl ⟨a, b, vs, ws, rfl, rfl, ex_t R.F a2, ex_t R.F b2, by omega, fun z => ?_, fun z1 z2 => ?_, fun z1 z2 p hp => ?_⟩))
      · subst z
        have : xs = [] := List.eq_nil_of_length_eq_zero (by simpa using e1.symm)
        subst this
        refine Post.fin (v := V.ref b) R ?_ h
        show Shr _ _ (.tup ys) _
        simp only [Shr]
        exact ⟨b, ws, rfl, b2, b3⟩
      · subst z2
        have : ys = [] := List.eq_nil_of_length_eq_zero (by simpa using e2.symm)
        subst this
        rw [List.append_nil] at h
        refine Post.fin (v := V.ref a) R ?_ h
        show Shr _ _ (.tup xs) _
        simp only [Shr]
        exact ⟨a, vs, rfl, a2, a3⟩
      · exact new_tup R (shrL_append a3 b3) h hp
    · exact h.elim
  · split at h
    · rename_i xs ys h1 h2
      split at h
      · rename_i hl
        obtain ⟨a, vs, rfl, a2, a3⟩ := listS_of R sx h1
        obtain ⟨b, ws, rfl, b2, b3⟩ := listS_of R sy h2
        have e1 := shrL_len a3
        have e2 := shrL_len b3
        exact .inr (.inr (.inr ⟨a, b, vs, ws, rfl, rfl, a2, b2, by omega, fun p hp => new_lst R (shrL_append a3 b3) h hp⟩))
      · exact h.elim
    · exact h.elim
def subD : O2 := fun a b O => match a, b with | .int i, .int j => .ok (.int (i - j)) O | _, _ => .bad
def modD : O2 := fun a b O => match a, b with | .int i, .int j => if 0 < j then .ok (.int (i % j)) O else .bad | _, _ => .bad
def fdivD : O2 := fun a b O => match a, b with | .int i, .int j => if 0 < j ∧ j < 1073741824 then .ok (.int (i / j)) O else .bad | _, _ => .bad
def negD : O1 := fun a O => match a with | .int i => .ok (.int (-i)) O | _ => .bad
theorem s_sub : Sat2 C W (rI0 fun i j => .int (i - j)) subD := by
  intro g H O R a b x y sx sy σ Q h
  unfold subD at h
  split at h
  · cases sx; cases sy; exact ⟨_, _, rfl, rfl, Post.fin R rfl h⟩
  · exact h.elim
theorem s_mod : Sat2 C W (rI (fun _ j => 0 < j) fun i j => .int (i % j)) modD := by
  intro g H O R a b x y sx sy σ Q h
  unfold modD at h
  split at h
  · cases sx; cases sy
    split at h
    · rename_i hj; exact ⟨_, _, rfl, rfl, hj, Post.fin R rfl h⟩
    · exact h.elim
  · exact h.elim
theorem s_fdiv : Sat2 C W (rI CDiv fun i j => .int (i / j)) fdivD := by
  intro g H O R a b x y sx sy σ Q h
  unfold fdivD at h
  split at h
  · cases sx; cases sy
    split at h
    · rename_i hj; exact ⟨_, _, rfl, rfl, hj, Post.fin R rfl h⟩
    · exact h.elim
  · exact h.elim
theorem s_neg : Sat1 C W (rU fun i => .int (-i)) negD := by
  intro g H O R a x sx σ Q h
  unfold negD at h
  split at h
  · cases sx; exact ⟨_, rfl, Post.fin R rfl h⟩
  · exact h.elim
/-- ints -/
def cmpI (p : Int → Int → Bool) : O2 := fun a b O => match a, b with | .int i, .int j => .ok (.bl (p i j)) O | _, _ => .bad
def ltD : O2 := cmpI fun i j => decide (i < j)
def leD : O2 := cmpI fun i j => decide (i ≤ j)
def gtD : O2 := cmpI fun i j => decide (j < i)
def geD : O2 := cmpI fun i j => decide (j ≤ i)
theorem s_cmpI (p : Int → Int → Bool) : Sat2 C W (rI0 fun i j => .bl (p i j)) (cmpI p) := by
  intro g H O R a b x y sx sy σ Q h
  unfold cmpI at h
  split at h
  · cases sx; cases sy; exact ⟨_, _, rfl, rfl, Post.fin R rfl h⟩
  · exact h.elim
theorem s_lt : Sat2 C W (rI0 fun i j => .bl (decide (i < j))) ltD := s_cmpI _
theorem s_le : Sat2 C W (rI0 fun i j => .bl (decide (i ≤ j))) leD := s_cmpI _
theorem s_gt : Sat2 C W (rI0 fun i j => .bl (decide (j < i))) gtD := s_cmpI _
theorem s_ge : Sat2 C W (rI0 fun i j => .bl (decide (j ≤ i))) geD := s_cmpI _
def isND (d : D) : Bool := match d with | .non => true | _ => false
def isNoneD : O2 := fun a b O => match b with | .non => .ok (.bl (isND a)) O | _ => .bad
def notNoneD : O2 := fun a b O => match b with | .non => .ok (.bl (!isND a)) O | _ => .bad
theorem isN_of {K : PySem.W.Frag} {g : G} {d : D} {v : V} (s : Shr K g d v) : decide (v = .non) = isND d := by
  cases d <;> simp only [Shr] at s <;> first
    | (subst s; rfl)
    | (obtain ⟨a, vs, rfl, _⟩ := s; rfl)
    | (obtain ⟨rfl, _⟩ := s; rfl)
theorem s_isN : Sat2 C W (fun x y H Q => y = .non ∧ Q (.bl (decide (x = .non))) H) isNoneD := by
  intro g H O R a b x y sx sy σ Q h
  unfold isNoneD at h
  split at h
  · cases sy; exact ⟨rfl, Post.fin R (by rw [isN_of sx]; rfl) h⟩
  · exact h.elim
mutual
/-- no thing within -/
def pure' : D → Bool
  | .ob _ => false
  | .tup ds => pureL ds
  | .lst ds => pureL ds
  | .scr _ => false
  | _ => true
def pureL : List D → Bool
  | [] => true
  | d :: ds => pure' d && pureL ds
end
mutual
def dep : D → Nat
  | .tup ds => depL ds + 1
  | .lst ds => depL ds + 1
  | .scr ds => depL ds + 1
  | _ => 0
def depL : List D → Nat
  | [] => 0
  | d :: ds => max (dep d) (depL ds)
end
mutual
def toPy : D → PyData
  | .non => .none
  | .bl b => .bool b
  | .int i => .int i
  | .str x => .str ⟨x.toArray⟩
  | .tup ds => .tuple (toPyL ds)
  | .lst ds => .list (toPyL ds)
  | .scr ds => .list (toPyL ds)
  | .ob _ => .none
def toPyL : List D → List PyData
  | [] => []
  | d :: ds => toPy d :: toPyL ds
end
mutual
def eqv : D → D → Bool
  | .non, .non => true
  | .bl a, .bl b => a == b
  | .bl a, .int j => (if a then 1 else 0) == j
  | .int i, .bl b => i == (if b then 1 else 0)
  | .int i, .int j => i == j
  | .str x, .str y => x == y
  | .tup xs, .tup ys => eqvL xs ys
  | .lst xs, .lst ys => eqvL xs ys
  | _, _ => false
def eqvL : List D → List D → Bool
  | [], [] => true
  | x :: xs, y :: ys => eqv x y && eqvL xs ys
  | _, _ => false
end
theorem beq_str (x y : List Nat) : ((⟨x.toArray⟩ : Str) == ⟨y.toArray⟩) = (x == y) := by
  by_cases e : x = y
  · subst e; simp
  · have : ¬ (⟨x.toArray⟩ : Str) = ⟨y.toArray⟩ := fun z => e (by injection z with z; simpa using z)
    rw [beq_eq_false_iff_ne.mpr this, beq_eq_false_iff_ne.mpr e]
mutual
theorem eqv_py : ∀ (a b : D), pure' a = true → pure' b = true → PyData.eqv (toPy a) (toPy b) = eqv a b
  | .non, b, _, _ => by cases b <;> simp_all [toPy, PyData.eqv, eqv, pure']
  | .bl _, b, _, _ => by cases b <;> simp_all [toPy, PyData.eqv, eqv, pure']
  | .int _, b, _, _ => by cases b <;> simp_all [toPy, PyData.eqv, eqv, pure']
  | .str x, b, _, _ => by
    cases b <;> simp_all [toPy, PyData.eqv, eqv, pure']
    rename_i y; exact beq_str x y
  | .tup xs, b, h, k => by
    cases b with
    | tup ys =>
      simp only [toPy, PyData.eqv, eqv]
      simp only [pure'] at h k
      exact eqvL_py xs ys h k
    | _ => simp_all [toPy, PyData.eqv, eqv, pure']
  | .lst xs, b, h, k => by
    cases b with
    | lst ys =>
      simp only [toPy, PyData.eqv, eqv]
      simp only [pure'] at h k
      exact eqvL_py xs ys h k
    | _ => simp_all [toPy, PyData.eqv, eqv, pure']
  | .scr _, _, h, _ => by simp [pure'] at h
  | .ob _, _, h, _ => by simp [pure'] at h
theorem eqvL_py : ∀ (a b : List D), pureL a = true → pureL b = true → PyData.eqvAll (toPyL a) (toPyL b) = eqvL a b
  | [], [], _, _ => by simp [toPyL, PyData.eqvAll, eqvL]
  | [], _ :: _, _, _ => by simp [toPyL, PyData.eqvAll, eqvL]
  | _ :: _, [], _, _ => by simp [toPyL, PyData.eqvAll, eqvL]
  | x :: xs, y :: ys, h, k => by
    simp only [pureL, Bool.and_eq_true] at h k
    simp only [toPyL, PyData.eqvAll, eqvL]
    rw [eqv_py x y h.1 k.1, eqvL_py xs ys h.2 k.2]
end
mutual
theorem dep_py : ∀ d : D, (toPy d).depth = dep d
  | .non => by simp [toPy, PyData.depth, dep]
  | .bl _ => by simp [toPy, PyData.depth, dep]
  | .int _ => by simp [toPy, PyData.depth, dep]
  | .str _ => by simp [toPy, PyData.depth, dep]
  | .ob _ => by simp [toPy, PyData.depth, dep]
  | .tup ds => by simp [toPy, PyData.depth, dep, depL_py ds]
  | .lst ds => by simp [toPy, PyData.depth, dep, depL_py ds]
  | .scr ds => by simp [toPy, PyData.depth, dep, depL_py ds]
theorem depL_py : ∀ ds : List D, PyData.depthAll (toPyL ds) = depL ds
  | [] => by simp [toPyL, PyData.depthAll, depL]
  | d :: ds => by simp [toPyL, PyData.depthAll, depL, dep_py d, depL_py ds]
end
mutual
theorem dp_of {K : PySem.W.Frag} {g : G} {H : Hp} (F : ∀ a o, g.F a = some o → H a = some o) : ∀ (d : D) (v : V), pure' d = true → Shr K g d v → Dp K H v (toPy d)
  | .non, _, _, s => by cases s; exact .non
  | .bl _, _, _, s => by cases s; exact .bl _
  | .int _, _, _, s => by cases s; exact .int _
  | .str _, _, _, s => by cases s; exact .str _
  | .tup ds, v, h, s => by
    simp only [Shr] at s
    obtain ⟨a, vs, rfl, h2, h3⟩ := s
    simp only [toPy]
    exact .tup (ex_t F h2) (dpL_of F ds vs (by simpa [pure'] using h) h3)
  | .lst ds, v, h, s => by
    simp only [Shr] at s
    obtain ⟨a, vs, rfl, h2, h3⟩ := s
    simp only [toPy]
    exact .lst (SqL.of (F _ _ h2)) (dpL_of F ds vs (by simpa [pure'] using h) h3)
  | .scr _, _, h, _ => by simp [pure'] at h
  | .ob _, _, h, _ => by simp [pure'] at h
theorem dpL_of {K : PySem.W.Frag} {g : G} {H : Hp} (F : ∀ a o, g.F a = some o → H a = some o) : ∀ (ds : List D) (vs : List V), pureL ds = true → ShrL K g ds vs → DpAll K H vs (toPyL ds)
  | [], _, _, s => by simp only [ShrL] at s; subst s; simp only [toPyL]; exact .nil
  | d :: ds, _, h, s => by
    simp only [ShrL] at s
    obtain ⟨v, r, rfl, h2, h3⟩ := s
    simp only [pureL, Bool.and_eq_true] at h
    simp only [toPyL]
    exact .cons (dp_of F d v h.1 h2) (dpL_of F ds r h.2 h3)
end
def okD (d : D) : Bool := pure' d && ((toPy d).canLay0 && decide (dep d ≤ 64))
/-- one cell of a list read as a list -/
def unob (d : D) (O : Sto) : D := match d with
  | .ob l => match O[l]? with | some (.lst ds) => .lst ds | _ => d
  | d => d
/-- pairs of scalars that need no look -/
def quick : D → D → Bool
  | .non, .non => true | .non, .int _ => true | .int _, .non => true | .non, .bl _ => true | .bl _, .non => true | .non, .str _ => true | .str _, .non => true
  | .int _, .int _ => true | .bl _, .bl _ => true | .str _, .str _ => true
  | .int _, .str _ => true | .str _, .int _ => true | .bl _, .str _ => true | .str _, .bl _ => true
  | _, _ => false
def eqD : O2 := fun a b O => if quick a b then .ok (.bl (eqv a b)) O else if okD (unob a O) && okD (unob b O) then .ok (.bl (eqv (unob a O) (unob b O))) O else .bad
def neD : O2 := fun a b O => if quick a b then .ok (.bl (!eqv a b)) O else if okD (unob a O) && okD (unob b O) then .ok (.bl (!eqv (unob a O) (unob b O))) O else .bad
theorem quick_of {K : PySem.W.Frag} {g : G} {a b : D} {x y : V} (sx : Shr K g a x) (sy : Shr K g b y) (h : quick a b = true) : scal x y = true ∧ decide (x = y) = eqv a b := by
  cases a <;> cases b <;> first
    | (exact absurd (show false = true from h) Bool.false_ne_true)
    | skip
  all_goals (simp only [Shr] at sx sy; subst sx; subst sy)
  all_goals first
    | (refine ⟨rfl, ?_⟩; simp [eqv, sV]; done)
    | skip
  all_goals (refine ⟨rfl, ?_⟩; rw [Bool.eq_iff_iff]; simp [eqv, sV])
theorem shaped_py {d : D} (h : okD d = true) : SeqAt.shaped (toPy d) = true := by
  simp only [okD, Bool.and_eq_true, decide_eq_true_eq] at h
  unfold SeqAt.shaped
  simp [dep_py, h.2]
theorem dp_unob {g : G} {H : Hp} {O : Sto} (R : RepO C g H O) {d : D} {v : V} (s : Shr C.K g d v) (h : okD (unob d O) = true) : Dp C.K H v (toPy (unob d O)) := by
  have hp : pure' (unob d O) = true := by
    simp only [okD, Bool.and_eq_true] at h
    exact h.1
  cases d with
  | ob l =>
    unfold unob at hp ⊢
    simp only at hp ⊢
    split at hp
    · rename_i ds e
      obtain ⟨vs, h1, h2⟩ := R.cell l _ e
      simp only [Shr] at s
      obtain ⟨rfl, _⟩ := s
      simp only [e, toPy]
      exact .lst (SqL.of h1) (dpL_of R.F ds vs (by simpa [pure'] using hp) h2)
    · simp [pure'] at hp
  | _ => exact dp_of R.F _ _ hp s
def rEqA (K : PySem.W.Frag) : R2 := fun x y H Q => rEq x y H Q ∨ rEqD K x y H Q
def rNeA (K : PySem.W.Frag) : R2 := fun x y H Q => rNe x y H Q ∨ rNeD K x y H Q
theorem op_eqA (hu : X.A.units + 64 < cLine) : OpR X (compareOp .Eq) (rEqA X.K) := op_eq.or (op_eqD hu)
theorem op_neA (hu : X.A.units + 64 < cLine) : OpR X (compareOp .NotEq) (rNeA X.K) := op_ne.or (op_neD hu)
theorem s_eq : Sat2 C W (rEqA C.K) eqD := by
  intro g H O R a b x y sx sy σ Q h
  unfold eqD at h
  split at h
  · rename_i hq
    obtain ⟨h1, h2⟩ := quick_of sx sy hq
    exact .inl ⟨h1, Post.fin R (by rw [h2]; rfl) h⟩
  split at h
  · rename_i hc
    simp only [Bool.and_eq_true] at hc
    refine .inr ⟨_, _, dp_unob R sx hc.1, dp_unob R sy hc.2, shaped_py hc.1, shaped_py hc.2, ?_⟩
    have p1 := hc.1
    have p2 := hc.2
    simp only [okD, Bool.and_eq_true] at p1 p2
    rw [eqv_py _ _ p1.1 p2.1]
    exact Post.fin R rfl h
  · exact h.elim
theorem s_ne : Sat2 C W (rNeA C.K) neD := by
  intro g H O R a b x y sx sy σ Q h
  unfold neD at h
  split at h
  · rename_i hq
    obtain ⟨h1, h2⟩ := quick_of sx sy hq
    exact .inl ⟨h1, Post.fin R (by rw [h2]; rfl) h⟩
  split at h
  · rename_i hc
    simp only [Bool.and_eq_true] at hc
    refine .inr ⟨_, _, dp_unob R sx hc.1, dp_unob R sy hc.2, shaped_py hc.1, shaped_py hc.2, ?_⟩
    have p1 := hc.1
    have p2 := hc.2
    simp only [okD, Bool.and_eq_true] at p1 p2
    rw [eqv_py _ _ p1.1 p2.1]
    exact Post.fin R rfl h
  · exact h.elim
def keyD (d : D) : Option DKey := match d with | .int i => some (.inl i) | .str x => some (.inr x) | _ => none
def getK (kvs : List (DKey × D)) (k : DKey) : Option D := (kvs.find? fun p => decide (p.1 = k)).map (·.2)
def putD (kvs : List (DKey × D)) (k : DKey) (d : D) : List (DKey × D) := if kvs.any fun p => decide (p.1 = k) then kvs.map fun p => if p.1 = k then (p.1, d) else p else kvs ++ [(k, d)]
def delK (kvs : List (DKey × D)) (k : DKey) : List (DKey × D) := kvs.filter fun p => decide (p.1 ≠ k)
theorem kD_inj {a b : DKey} (h : kD a = kD b) : a = b := by
  cases a <;> cases b <;> simp_all [kD]
theorem kD_dec (a b : DKey) : decide (kD a = kD b) = decide (a = b) := by
  by_cases e : a = b
  · subst e; simp
  · have : ¬ kD a = kD b := fun z => e (kD_inj z)
    simp [e, this]
theorem keyD_of {K : PySem.W.Frag} {g : G} {d : D} {v : V} {k : DKey} (s : Shr K g d v) (h : keyD d = some k) : v = kV (kD k) := by
  unfold keyD at h
  split at h
  · cases h; cases s; rfl
  · cases h; cases s; rfl
  · cases h
theorem shrK_get {K : PySem.W.Frag} {g : G} {k : DKey} : ∀ {ds : List (DKey × D)} {vs : List (Key × V)}, ShrK K g ds vs →
    (∀ d, getK ds k = some d → ∃ v, valV vs (kD k) = some v ∧ Shr K g d v) ∧ (getK ds k = none → valV vs (kD k) = none)
  | [], vs, h => by
    simp only [ShrK] at h; subst h
    exact ⟨fun d e => by simp [getK] at e, fun _ => rfl⟩
  | p :: ds, vs, h => by
    simp only [ShrK] at h
    obtain ⟨v, r, rfl, h2, h3⟩ := h
    by_cases e : p.1 = k
    · refine ⟨fun d q => ?_, fun q => ?_⟩
      · simp [getK, List.find?_cons, e] at q
        subst q
        exact ⟨v, by rw [valV_pos (by rw [e])], h2⟩
      · simp [getK, List.find?_cons, e] at q
    · have ih := shrK_get (k := k) h3
      have e' : ¬ kD p.1 = kD k := fun z => e (kD_inj z)
      refine ⟨fun d q => ?_, fun q => ?_⟩
      · rw [valV_neg e']
        exact ih.1 d (by simpa [getK, List.find?_cons, e] using q)
      · rw [valV_neg e']
        exact ih.2 (by simpa [getK, List.find?_cons, e] using q)
theorem shrK_any {K : PySem.W.Frag} {g : G} {k : DKey} : ∀ {ds : List (DKey × D)} {vs : List (Key × V)}, ShrK K g ds vs → (vs.any fun p => decide (p.1 = kD k)) = ds.any fun p => decide (p.1 = k)
  | [], vs, h => by simp only [ShrK] at h; subst h; rfl
  | p :: ds, vs, h => by
    simp only [ShrK] at h
    obtain ⟨v, r, rfl, h2, h3⟩ := h
    simp only [List.any_cons, shrK_any h3, kD_dec]
theorem shrK_put {K : PySem.W.Frag} {g : G} {k : DKey} {d : D} {v : V} (s : Shr K g d v) {ds : List (DKey × D)} {vs : List (Key × V)} (h : ShrK K g ds vs) : ShrK K g (putD ds k d) (putK vs (kD k) v) := by
  unfold putD putK
  rw [shrK_any h]
  split
  · rename_i hno; clear hno
    induction ds generalizing vs with
    | nil => simp only [ShrK] at h; subst h; simp [ShrK]
    | cons p ds ih =>
      simp only [ShrK] at h
      obtain ⟨w, r, rfl, h2, h3⟩ := h
      simp only [List.map_cons]
      by_cases e : p.1 = k
      · rw [if_pos e, if_pos (show (kD p.1, w).1 = kD k from by rw [e])]
        simp only [ShrK]
        exact ⟨v, _, rfl, s, ih h3⟩
      · rw [if_neg e, if_neg (show ¬ (kD p.1, w).1 = kD k from fun z => e (kD_inj z))]
        simp only [ShrK]
        exact ⟨w, _, rfl, h2, ih h3⟩
  · rename_i hno; clear hno
    induction ds generalizing vs with
    | nil =>
      simp only [ShrK] at h; subst h
      simp only [List.nil_append, ShrK]
      exact ⟨v, [], rfl, s, rfl⟩
    | cons p ds ih =>
      simp only [ShrK] at h
      obtain ⟨w, r, rfl, h2, h3⟩ := h
      simp only [List.cons_append, ShrK]
      exact ⟨w, _, rfl, h2, ih h3⟩
theorem shrK_del {K : PySem.W.Frag} {g : G} {k : DKey} : ∀ {ds : List (DKey × D)} {vs : List (Key × V)}, ShrK K g ds vs → ShrK K g (delK ds k) (dropK vs (kD k))
  | [], vs, h => by simp only [ShrK] at h; subst h; simp [delK, dropK, ShrK]
  | p :: ds, vs, h => by
    simp only [ShrK] at h
    obtain ⟨w, r, rfl, h2, h3⟩ := h
    have ih := shrK_del (k := k) h3
    unfold delK dropK at ih ⊢
    by_cases e : p.1 = k
    · rw [List.filter_cons_of_neg (by simp [e]), List.filter_cons_of_neg (by simp [e])]
      exact ih
    · have e' : ¬ kD p.1 = kD k := fun z => e (kD_inj z)
      rw [List.filter_cons_of_pos (by simpa using e), List.filter_cons_of_pos (by simpa using e')]
      simp only [ShrK]
      exact ⟨w, _, rfl, h2, ih⟩
theorem shrK_len {K : PySem.W.Frag} {g : G} : ∀ {ds : List (DKey × D)} {vs : List (Key × V)}, ShrK K g ds vs → vs.length = ds.length
  | [], vs, h => by simp only [ShrK] at h; subst h; rfl
  | p :: ds, vs, h => by
    simp only [ShrK] at h
    obtain ⟨w, r, rfl, h2, h3⟩ := h
    simp [shrK_len h3]
def dicOf (d : D) (O : Sto) : Option (Nat × List (DKey × D)) := match d with
  | .ob l => match O[l]? with | some (.dic kvs) => some (l, kvs) | _ => none
  | _ => none
theorem dicOf_of {g : G} {H : Hp} {O : Sto} {d : D} {v : V} {l : Nat} {kvs : List (DKey × D)} (R : RepO C g H O) (s : Shr C.K g d v) (h : dicOf d O = some (l, kvs)) :
    v = .ref (g.θ l) ∧ l < g.n ∧ O[l]? = some (.dic kvs) ∧ ∃ vs, H (g.θ l) = some (.dK vs) ∧ ShrK C.K g kvs vs := by
  unfold dicOf at h
  split at h
  · split at h
    · rename_i e
      cases h
      simp only [Shr] at s
      exact ⟨s.1, s.2, e, R.cell _ _ e⟩
    · cases h
  · cases h
def hasSub (x y : List Nat) : Bool := (List.range (y.length + 1 - x.length)).any fun i => (y.drop i).take x.length == x
def flatD : D → Bool
  | .non => true | .bl _ => true | .int _ => true | .str _ => true | _ => false
def inB (neg : Bool) : O2 := fun a b O => match a, b with
  | .str x, .str y => .ok (.bl (neg != (hasSub x y && decide (x.length ≤ y.length)))) O
  | a, b => match dicOf b O with
    | some (_, kvs) => match keyD a with | some k => .ok (.bl (neg != (getK kvs k).isSome)) O | none => .bad
    | none => match seqR b O with
      | some ds => if flatD a && ds.all flatD then .ok (.bl (neg != ds.any fun y => eqv y a)) O else .bad
      | none => .bad
end
end Dn
set_option Elab.async false
set_option linter.all false
set_option maxRecDepth 100000
set_option maxHeartbeats 2000000
namespace Dn
open PySem PySem.Spec PyProof.Rows L2
section
variable {C : Ctx} {X : Cx} {W : WX}
theorem tl_mk' (x : List Nat) : (⟨x.toArray⟩ : Str).cps.toList = x := rfl
theorem found_sub (x y : List Nat) : (!(Builtin.Str.occurrences ⟨y.toArray⟩ ⟨x.toArray⟩ 0 (⟨y.toArray⟩ : Str).length 1).isEmpty) = (hasSub x y && decide (x.length ≤ y.length)) := by
  rw [Bool.eq_iff_iff, StrLaws.found_iff]
  simp only [strlen, StrLaws.subAt_eq, tl_mk', hasSub, Bool.and_eq_true, List.any_eq_true, List.mem_range, decide_eq_true_eq]
  constructor
  · rintro ⟨i, h1, h2⟩
    exact ⟨⟨i, by omega, h2⟩, by omega⟩
  · rintro ⟨⟨i, h1, h2⟩, h3⟩
    exact ⟨i, by omega, h2⟩
def rInA (K : PySem.W.Frag) (neg : Bool) : R2 := fun x y H Q =>
  (∃ i j, x = .str i ∧ y = .str j ∧ Q (.bl (neg != (!(Builtin.Str.occurrences j i 0 j.length 1).isEmpty))) H) ∨ (∃ a o, y = .ref a ∧ DGet H a x o ∧ Q (.bl (neg != o.isSome)) H) ∨ rIn K neg x y H Q
theorem op_inA (hu : X.A.units + 1 < cLine) : OpR X (compareOp .In) (rInA X.K false) := by
  intro pins s σ H x y v u Q I rx ry h
  rcases h with ⟨i, j, h1, h2, h3⟩ | ⟨a, o, rfl, h2, h3⟩ | h
  · exact op_in_str pins s σ H x y v u Q I rx ry ⟨i, j, h1, h2, by simpa using h3⟩
  · cases ry
    exact d_in hu I h2 rx fun s3 I3 => ⟨.bl o.isSome, H, I3, rfl, by simpa using h3⟩
  · exact op_in_seq pins s σ H x y v u Q I rx ry h
theorem op_notInA (hu : X.A.units + 1 < cLine) : OpR X (compareOp .NotIn) (rInA X.K true) := by
  intro pins s σ H x y v u Q I rx ry h
  rcases h with ⟨i, j, h1, h2, h3⟩ | ⟨a, o, rfl, h2, h3⟩ | h
  · exact op_notin_str pins s σ H x y v u Q I rx ry ⟨i, j, h1, h2, by simpa using h3⟩
  · cases ry
    exact d_notIn hu I h2 rx fun s3 I3 => ⟨.bl (!o.isSome), H, I3, rfl, by simpa using h3⟩
  · exact op_notIn_seq pins s σ H x y v u Q I rx ry h
theorem flat_of {K : PySem.W.Frag} {g : G} {d : D} {v : V} (s : Shr K g d v) (h : flatD d = true) : flatV v = true := by
  cases d <;> simp_all [flatD, Shr, flatV, sV] <;> subst s <;> rfl
theorem eqv_flat {K : PySem.W.Frag} {g : G} {a b : D} {x y : V} (sx : Shr K g a x) (sy : Shr K g b y) (ha : flatD a = true) (hb : flatD b = true) : eqV x y = eqv a b := by
  cases a <;> simp [flatD] at ha <;> cases b <;> simp [flatD] at hb <;> simp only [Shr] at sx sy <;> subst sx <;> subst sy <;> first
    | rfl
    | (simp [eqV, eqv, sV, beq_str]; done)
    | (simp [eqV, eqv, sV]; exact beq_str _ _)
theorem any_flat {K : PySem.W.Frag} {g : G} {a : D} {x : V} (sx : Shr K g a x) (ha : flatD a = true) : ∀ {ds : List D} {vs : List V}, ShrL K g ds vs → ds.all flatD = true → vs.all flatV = true ∧ inV x vs = ds.any fun y => eqv y a
  | [], vs, h, _ => by simp only [ShrL] at h; subst h; exact ⟨rfl, rfl⟩
  | d :: ds, vs, h, k => by
    simp only [ShrL] at h
    obtain ⟨v, r, rfl, h2, h3⟩ := h
    simp only [List.all_cons, Bool.and_eq_true] at k
    obtain ⟨i1, i2⟩ := any_flat sx ha h3 k.2
    refine ⟨by simp [flat_of h2 k.1, i1], ?_⟩
    show (eqV v x || inV x r) = _
    rw [List.any_cons, i2, eqv_flat h2 sx k.1 ha]
theorem s_in (neg : Bool) : Sat2 C W (rInA C.K neg) (inB neg) := by
  intro g H O R a b x y sx sy σ Q h
  unfold inB at h
  split at h
  · cases sx; cases sy
    refine .inl ⟨_, _, rfl, rfl, ?_⟩
    rw [found_sub]
    exact Post.fin R rfl h
  · split at h
    · rename_i l kvs e
      obtain ⟨rfl, _, _, vs, h2, h3⟩ := dicOf_of R sy e
      split at h
      · rename_i k ek
        have := keyD_of sx ek
        subst this
        refine .inr (.inl ⟨_, _, rfl, DGet.k h2, ?_⟩)
        refine Post.fin R ?_ h
        have hk := shrK_get (k := k) h3
        cases q : getK kvs k with
        | none => rw [hk.2 q]; rfl
        | some d => obtain ⟨v, q1, _⟩ := hk.1 d q; rw [q1]; rfl
      · exact h.elim
    · split at h
      · rename_i ds e
        split at h
        · rename_i hf
          simp only [Bool.and_eq_true] at hf
          obtain ⟨p, vs, rfl, h2, h3⟩ := seqR_of R sy e
          obtain ⟨f1, f2⟩ := any_flat sx hf.1 h3 hf.2
          refine .inr (.inr ⟨p, vs, rfl, h2, flat_of sx hf.1, f1, ?_⟩)
          rw [f2]
          refine Post.fin R ?_ h
          cases neg
          · show V.bl _ = _; simp
          · show V.bl _ = _; simp
        · exact h.elim
      · exact h.elim
def getI (ds : List D) (i : Int) : Option D := (ixN ds.length i).bind fun j => ds[j]?
def ixD : O2 := fun a b O => match a, b with
  | .str x, .int i => if x.length ≤ sizeLine then match (ixN x.length i).bind fun j => x[j]? with | some c => .ok (.str [c]) O | none => .bad else .bad
  | a, b => match dicOf a O with
    | some (_, kvs) => match keyD b with | some k => (match getK kvs k with | some d => .ok d O | none => .bad) | none => .bad
    | none => match seqR a O, b with
      | some ds, .int i => (match getI ds i with | some d => .ok d O | none => .bad)
      | _, _ => .bad
def rIxDic : R2 := fun x y H Q => ∃ a v, x = .ref a ∧ DGet H a y (some v) ∧ Q v H
theorem ix_dict (hu : X.A.units + 1 < cLine) : IxR X rIxDic := by
  intro value slice pins s σ H x y v u Q I rx ry h hs
  obtain ⟨a, z, rfl, g, q⟩ := h
  cases rx
  have hT := dict_typeIs I g
  unfold subscriptTail
  refine wpAny_bind ?_
  rw [getitemInPython_of_ne hT.not_modules]
  refine wpAny_bind (wpAny_specialOf hT PySem.F.slot_dict_getitem.lookup ?_)
  have fin : wpAny (model X.prog X.w) X.A (subscripted slice false (.ref a) u) (fun r s₃ => wpAny (model X.prog X.w) X.A (letTemporaryGo value (.ref a) r >>= fun _ => pure r) (EP X pins σ Q) X.xe s₃) X.xe s := by
    rw [hs]
    exact wpAny_operating (d_getItem hu I g ry fun w' s3 I3 rw' => wpAny_bind (wpAny_letTemporaryGo (wpAny_pure ⟨z, H, I3, rw', q⟩)))
  first
    | exact wpAny_pure (wpAny_bind fin)
    | exact wpAny_bind (wpAny_pure (wpAny_bind fin))
    | exact wpAny_bind fin
def rIxA (K : PySem.W.Frag) : R2 := fun x y H Q => rIx K x y H Q ∨ rIxDic x y H Q
theorem ix_all (hu : X.A.units + 1 < cLine) : IxR X (rIxA X.K) := ix_seq.or (ix_dict hu)
theorem s_ix : Sat2 C W (rIxA C.K) ixD := by
  intro g H O R a b x y sx sy σ Q h
  unfold ixD at h
  split at h
  · cases sx; cases sy
    split at h
    · rename_i hl
      split at h
      · rename_i c e
        refine .inl (.inr (.inr ⟨_, _, c, rfl, rfl, by rw [strlen]; exact hl, ?_, ?_⟩))
        · show (ixN (List.length _) _).bind _ = _
          exact e
        · exact Post.fin R rfl h
      · exact h.elim
    · exact h.elim
  · split at h
    · rename_i l kvs e
      obtain ⟨rfl, _, _, vs, h2, h3⟩ := dicOf_of R sx e
      split at h
      · rename_i k ek
        have := keyD_of sy ek
        subst this
        split at h
        · rename_i d ed
          obtain ⟨v, q1, q2⟩ := (shrK_get h3).1 d ed
          exact .inr ⟨_, v, rfl, by rw [← q1]; exact DGet.k h2, Post.fin R q2 h⟩
        · exact h.elim
      · exact h.elim
    · split at h
      · rename_i ds i e _
        split at h
        · rename_i d ed
          cases sy
          obtain ⟨p, vs, rfl, h2, h3⟩ := seqR_of R sx e
          have hlen := shrL_len h3
          obtain ⟨j, ej, ed⟩ : ∃ j, ixN ds.length i = some j ∧ ds[j]? = some d := by
            unfold getI at ed
            cases q : ixN ds.length i with
            | none => rw [q] at ed; cases ed
            | some j => rw [q] at ed; exact ⟨j, rfl, ed⟩
          obtain ⟨v, q1, q2⟩ := shrL_get h3 ed
          have hat : atI vs i = some v := by
            unfold atI
            rw [hlen, ej]
            exact q1
          rcases h2 with h2 | h2
          · exact .inl (.inl ⟨p, vs, i, v, rfl, rfl, h2, hat, Post.fin R q2 h⟩)
          · exact .inl (.inr (.inl ⟨p, vs, i, v, rfl, rfl, h2, hat, Post.fin R q2 h⟩))
        · exact h.elim
      · exact h.elim
variable {a b c e : Expr} {fa fb fc fe : DE0} {pos : Pos}
theorem d_ix (hK : X.K = C.K) (hu : X.A.units + 1 < cLine) (ha : DE C X W a fa) (hb : DE C X W b fb) (hs : PlainIx b := by exact fun _ _ => rfl) : DE C X W (.Subscript a b pos) (op2 ixD fa fb) :=
  let ⟨_, pa, sa⟩ := ha.ex; let ⟨_, pb, sb⟩ := hb.ex; ⟨_, pe_ix (ix_all hu) pa pb hs, sat_op (by rw [hK]; exact s_ix) sa sb⟩
instance : Rel (Option Int) (Option Int) := ⟨fun _ _ a b => a = b, fun _ h => h⟩
structure DO (C : Ctx) (X : Cx) (W : WX) (e : Option Expr) (f : Rho → Sto → Res (Option Int)) : Prop where
  ex : ∃ te, PO X e te ∧ Sat C W te f
def noP : Rho → Sto → Res (Option Int) := fun _ O => .ok none O
def asP (d : D) (O : Sto) : Res (Option Int) := match d with | .int i => .ok (some i) O | _ => .bad
def someP (f : DE0) : Rho → Sto → Res (Option Int) := fun r O => (f r O).bind asP
theorem o_none : DO C X W none noP := ⟨_, po_none, fun g σ H r O R S Q h => Post.fin R rfl h⟩
theorem o_some (h : DE C X W e fe) : DO C X W (some e) (someP fe) :=
  let ⟨_, p, s⟩ := h.ex; ⟨_, po_some p, fun g σ H r O R S Q h => s.seq R S h fun d O1 v g1 H1 e1 R1 S1 s1 h1 => by
    cases d with
    | int i => exact ⟨i, s1, Post.fin R1 rfl h1⟩
    | _ => exact h1.elim⟩
def cutD {α : Type} (xs : List α) (lo hi : Option Int) : List α := (xs.drop (HT.sIx xs.length 0 lo)).take (HT.sIx xs.length xs.length hi - HT.sIx xs.length 0 lo)
theorem shrL_cut {K : PySem.W.Frag} {g : G} {ds : List D} {vs : List V} (h : ShrL K g ds vs) (lo hi : Option Int) : ShrL K g (cutD ds lo hi) (cutV vs lo hi) := by
  unfold cutD cutV
  rw [shrL_len h]
  exact shrL_take _ (shrL_drop _ h)
def slD (m : Bool) (a : D) (lo hi : Option Int) (O : Sto) : ER := match a with
  | .str x => if x.length ≤ sizeLine then .ok (.str (cutD x lo hi)) O else .bad
  | .tup ds => .ok (.tup (cutD ds lo hi)) O
  | a => match listR a O with | some ds => mkL m (cutD ds lo hi) O | none => .bad
def slE (m : Bool) (f : DE0) (l h : Rho → Sto → Res (Option Int)) : DE0 := fun r O => (f r O).bind fun d O1 => (l r O1).bind fun lo O2 => (h r O2).bind fun hi O3 => slD m d lo hi O3
def rSlAll (K : PySem.W.Frag) : V → Option Int → Option Int → Hp → VK → Prop := fun x lo hi H Q => rSlL K x lo hi H Q ∨ rSlA K x lo hi H Q ∨ rSlS x lo hi H Q
theorem sl_all : SlR X (rSlAll X.K) := sl_list.or (sl_tupA.or sl_str)
theorem d_slice (m : Bool) (hK : X.K = C.K) {lo hi : Option Expr} {fl fh : Rho → Sto → Res (Option Int)} {p2 : Pos} (ha : DE C X W a fa) (hl : DO C X W lo fl) (hh : DO C X W hi fh) : DE C X W (.Subscript a (.Slice lo hi none p2) pos) (slE m fa fl fh) :=
  let ⟨_, pa, sa⟩ := ha.ex; let ⟨_, pl, sl⟩ := hl.ex; let ⟨_, ph, sh⟩ := hh.ex
  ⟨_, pe_slice sl_all pa pl ph, fun g σ H r O R S Q h => sa.seq R S h fun d O1 v g1 H1 e1 R1 S1 s1 h1 => sl.seq R1 S1 h1 fun lo O2 lo' g2 H2 e2 R2 S2 s2 h2 => sh.seq R2 S2 h2 fun hi O3 hi' g3 H3 e3 R3 S3 s3 h3 => by
    cases s2; cases s3
    have sd : Shr C.K g3 d v := Shr.mono (e2.le.trans e3.le) _ _ s1
    rw [hK]
    unfold slD at h3
    split at h3
    · cases sd
      split at h3
      · rename_i hl
        refine .inr (.inr ⟨_, rfl, by rw [strlen]; exact hl, ?_⟩)
        refine Post.fin (v := V.str _) R3 ?_ h3
        show V.str _ = sV _
        unfold cutS cutD
        rw [strlen]; rfl
      · exact h3.elim
    · rename_i ds
      simp only [Shr] at sd
      obtain ⟨p, vs, rfl, h4, h5⟩ := sd
      refine .inr (.inl ⟨p, vs, rfl, ex_t R3.F h4, fun z => ?_, fun z q hq => ?_⟩)
      · have e : cutD ds lo hi = ds := by
          unfold cutD
          rw [shrL_len h5] at z
          rw [z.1, z.2, List.drop_zero, Nat.sub_zero, List.take_length]
        rw [e] at h3
        refine Post.fin (v := V.ref p) R3 ?_ h3
        show Shr _ _ (.tup ds) _
        simp only [Shr]
        exact ⟨p, vs, rfl, h4, h5⟩
      · exact new_tup R3 (shrL_cut h5 lo hi) h3 hq
    · split at h3
      · rename_i ds e
        obtain ⟨p, vs, rfl, h4, h5⟩ := listR_of R3 sd e
        exact .inl ⟨p, vs, rfl, h4, fun q hq => new_lst R3 (shrL_cut h5 lo hi) h3 hq⟩
      · exact h3.elim⟩
def SatC (C : Ctx) (W : WX) (r : List V → Hp → VK → Prop) (f : List D → Sto → ER) : Prop := ∀ g H O, RepO C g H O → ∀ ds vs, ShrL C.K g ds vs → ∀ σ Q, Post C W σ g H (f ds O) Q → r vs H Q
def callE (f : List D → Sto → ER) (fas : Rho → Sto → Res (List D)) : DE0 := fun r O => (fas r O).bind f
variable {x : Str} {p : Pos} {es : List Expr} {id T : String} {r : List V → Hp → VK → Prop} {fas : Rho → Sto → Res (List D)} {f : List D → Sto → ER}
theorem sat_call {t : TA} (hr : SatC C W r f) (sa : Sat C W t fas) : Sat C W (tCB r t) (callE f fas) := fun g σ H ρ O R S Q h =>
  sa.seq R S h fun ds O1 vs g1 H1 e1 R1 S1 s1 h1 => hr g1 H1 O1 R1 ds vs s1 σ Q h1
theorem d_callB (hc : CallR X (.builtin id) r) (hr : SatC C W r f) (hg : Gl X x) (hm : X.mg x = none) (hv : bootBuiltins x = some (.builtin id)) (ha : DA C X W (e :: es) fas) (hn : x ≠ "__name__" := by decide) (hdb : (x == ("__debug__" : Str)) = false := by decide)
    (he : starEach (e :: es) X.env = (false, eval e X.env) :: starEach es X.env := by rfl) (hpl : (backTo pos (starEach es X.env)).any (·.1) = false := by rfl) : DE C X W (.Call (.Name x p) (e :: es) [] pos) (callE f fas) :=
  let ⟨_, pa, sa⟩ := ha.ex; ⟨_, pe_callB hc hg hm hv pa hn hdb he hpl, sat_call hr sa⟩
theorem d_callTy (hc : CallR X (.type T) r) (hr : SatC C W r f) (hg : Gl X x) (hm : X.mg x = none) (hv : bootBuiltins x = some (.type T)) (ha : DA C X W (e :: es) fas) (hn : x ≠ "__name__" := by decide) (hdb : (x == ("__debug__" : Str)) = false := by decide)
    (he : starEach (e :: es) X.env = (false, eval e X.env) :: starEach es X.env := by rfl) (hpl : (backTo pos (starEach es X.env)).any (·.1) = false := by rfl) : DE C X W (.Call (.Name x p) (e :: es) [] pos) (callE f fas) :=
  let ⟨_, pa, sa⟩ := ha.ex; ⟨_, pe_callTy hc hg hm hv pa hn hdb he hpl, sat_call hr sa⟩
/-- len -/
def lenD (d : D) (O : Sto) : ER := match d with
  | .str x => if x.length ≤ sizeLine then .ok (.int x.length) O else .bad
  | d => match seqR d O with
    | some ds => .ok (.int ds.length) O
    | none => match dicOf d O with | some (_, kvs) => .ok (.int kvs.length) O | none => .bad
def lenF : List D → Sto → ER := fun ds O => match ds with | [d] => lenD d O | _ => .bad
theorem shrL_one {K : PySem.W.Frag} {g : G} {d : D} {vs : List V} (h : ShrL K g [d] vs) : ∃ v, vs = [v] ∧ Shr K g d v := by
  simp only [ShrL] at h
  obtain ⟨v, r, rfl, h2, rfl⟩ := h
  exact ⟨v, rfl, h2⟩
theorem shrL_two {K : PySem.W.Frag} {g : G} {d d' : D} {vs : List V} (h : ShrL K g [d, d'] vs) : ∃ v v', vs = [v, v'] ∧ Shr K g d v ∧ Shr K g d' v' := by
  simp only [ShrL] at h
  obtain ⟨v, r, rfl, h2, w, r', rfl, h3, rfl⟩ := h
  exact ⟨v, w, rfl, h2, h3⟩
def rLenA (K : PySem.W.Frag) : List V → Hp → VK → Prop := fun xs H Q => (∃ x n, xs = [x] ∧ LenV K x H n ∧ Q (.int n) H) ∨ ∃ d kvs, xs = [.ref d] ∧ H d = some (.dK kvs) ∧ Q (.int kvs.length) H
theorem call_lenDic : CallR X (.builtin "len") (fun xs H Q => ∃ d kvs, xs = [.ref d] ∧ H d = some (.dK kvs) ∧ Q (.int kvs.length) H) := by
  intro pins s σ H xs us Q I r h
  obtain ⟨d, kvs, rfl, hd, q⟩ := h
  obtain ⟨u, rfl, ru⟩ := vals1 r
  cases ru
  exact d_len I (.inl hd) fun t s' I' => ⟨.int kvs.length, H, I', ⟨_, rfl⟩, q⟩
theorem call_lenA : CallR X (.builtin "len") (rLenA X.K) := call_len.or call_lenDic
theorem s_len : SatC C W (rLenA C.K) lenF := by
  intro g H O R ds vs s σ Q h
  unfold lenF at h
  split at h
  · rename_i d
    obtain ⟨v, rfl, sd⟩ := shrL_one s
    unfold lenD at h
    split at h
    · cases sd
      split at h
      · rename_i hl
        refine .inl ⟨_, _, rfl, ⟨by rw [strlen]; exact hl, rfl⟩, ?_⟩
        rw [strlen]
        exact Post.fin R rfl h
      · exact h.elim
    · split at h
      · rename_i xs e
        obtain ⟨p, ws, rfl, h2, h3⟩ := seqR_of R sd e
        refine .inl ⟨_, ws.length, rfl, ?_, ?_⟩
        · rcases h2 with h2 | h2
          · exact .inl ⟨ws, h2, rfl⟩
          · exact .inr ⟨ws, h2, rfl⟩
        · rw [shrL_len h3]
          exact Post.fin R rfl h
      · split at h
        · rename_i l kvs e
          obtain ⟨rfl, _, _, ws, h2, h3⟩ := dicOf_of R sd e
          refine .inr ⟨_, ws, rfl, h2, ?_⟩
          rw [shrK_len h3]
          exact Post.fin R rfl h
        · exact h.elim
  · exact h.elim
/-- a method of a builtin type -/
def bmE (ty : D → Sto → Bool) (f : D → List D → Sto → ER) (fo : DE0) (fas : Rho → Sto → Res (List D)) : DE0 := fun r O => (fo r O).bind fun d O1 => if ty d O1 then (fas r O1).bind fun ds O2 => f d ds O2 else .bad
def SatM (C : Ctx) (W : WX) (r : V → List V → Hp → VK → Prop) (f : D → List D → Sto → ER) : Prop := ∀ g H O, RepO C g H O → ∀ d ds v vs, Shr C.K g d v → ShrL C.K g ds vs → ∀ σ Q, Post C W σ g H (f d ds O) Q → r v vs H Q
def SatT (C : Ctx) (T : String) (ty : D → Sto → Bool) : Prop := ∀ g H O, RepO C g H O → ∀ d v, Shr C.K g d v → ty d O = true → tyV C.K T v H
def tyStr (d : D) (_ : Sto) : Bool := match d with | .str _ => true | _ => false
def tyLst (d : D) (O : Sto) : Bool := (listR d O).isSome
def tyDic (d : D) (O : Sto) : Bool := (dicOf d O).isSome
theorem ty_str : SatT C "str" tyStr := by
  intro g H O R d v s h
  cases d <;> simp [tyStr] at h
  cases s
  show "str" = "str"
  rfl
theorem ty_lst : SatT C "list" tyLst := by
  intro g H O R d v s h
  unfold tyLst at h
  cases e : listR d O with
  | none => rw [e] at h; cases h
  | some ds =>
    obtain ⟨p, vs, rfl, h2, _⟩ := listR_of R s e
    exact .inl ⟨rfl, vs, h2⟩
variable {o : Expr} {fo : DE0} {name : Str} {apos cpos : Pos} {rm : V → List V → Hp → VK → Prop} {fm : D → List D → Sto → ER} {ty : D → Sto → Bool}
theorem d_bm (hK : X.K = C.K) (pa : PlainAttrs T) (slot : Slot T name id) (hty : typeOf (.builtin id) = pure (.type "method_descriptor")) (hm : MtR X id rm) (hr : SatM C W rm fm) (ht : SatT C T ty) (ho : DE C X W o fo) (ha : DA C X W (e :: es) fas)
    (hbase : attributeBase o name X.env (eval o X.env) = eval o X.env := by rfl)
    (hfew : ((backTo cpos (starEach (e :: es) X.env)).all (fun x => !x.1) && (backToKw cpos (keywordEach [] X.env)).all (fun x => x.1.isSome)
      && decide ((e :: es).length + ([] : List Keyword).length + (if ([] : List Keyword).isEmpty then 0 else 1) < 30)) = true := by rfl)
    (hline : (apos.endLine == cpos.line) = true := by rfl) (hs : starEach (e :: es) X.env = (false, eval e X.env) :: starEach es X.env := by rfl) (hplain : (backTo cpos (starEach es X.env)).any (·.1) = false := by rfl) :
    DE C X W (.Call (.Attribute o name apos) (e :: es) [] cpos) (bmE ty fm fo fas) :=
  let ⟨_, po, so⟩ := ho.ex; let ⟨_, pb, sb⟩ := ha.ex
  ⟨_, pe_bm pa slot hty hm po pb hbase hfew hline hs hplain, fun g σ H r O R S Q h => so.seq R S h fun d O1 v g1 H1 e1 R1 S1 s1 h1 => by
    split at h1
    · rename_i hy
      exact ⟨hK ▸ ht g1 H1 O1 R1 d v s1 hy, sb.seq R1 S1 h1 fun ds O2 vs g2 H2 e2 R2 S2 s2 h2 => hr g2 H2 O2 R2 d ds v vs (s1.mono e2.le) s2 σ Q h2⟩
    · exact h1.elim⟩
/-- xs.append(y) -/
def appendF : D → List D → Sto → ER := fun d ds O => match d, ds with
  | .ob l, [y] => (match O[l]? with | some (.lst xs) => if xs.length < sizeLine then .ok .non (O.set l (.lst (xs ++ [y]))) else .bad | _ => .bad)
  | _, _ => .bad
theorem s_append : SatM C W rAppend appendF := by
  intro g H O R d ds v vs s sl σ Q h
  unfold appendF at h
  split at h
  · rename_i l y
    simp only [Shr] at s
    obtain ⟨rfl, hl⟩ := s
    obtain ⟨w, rfl, sy⟩ := shrL_one sl
    split at h
    · rename_i xs e
      split at h
      · rename_i hz
        obtain ⟨ws, h1, h2⟩ := R.cell l _ e
        refine ⟨_, ws, w, rfl, rfl, h1, by rw [shrL_len h2]; exact hz, ?_⟩
        refine h .non g _ (Ext.set R hl) (R.set hl ⟨ws ++ [w], upd_same, shrL_append h2 ?_⟩) rfl
        simp only [ShrL]
        exact ⟨w, [], rfl, sy, rfl⟩
      · exact h.elim
    · exact h.elim
  · exact h.elim
end
end Dn
set_option Elab.async false
set_option linter.all false
set_option maxRecDepth 100000
set_option maxHeartbeats 2000000
namespace Dn
open PySem PySem.Spec PyProof.Rows L2
section
variable {C : Ctx} {X : Cx} {W : WX}
abbrev Fn := List D → Sto → ER
def spD (C : Ctx) (np : Nat) (fn : Fn) : Sp := fun vs H Q E => ∃ g O ds, ds.length = np ∧ RepO C g H O ∧ ShrL C.K g ds vs ∧ Post C (fun cv dx _ H' => E cv dx H') [] g H (fn ds O) Q
def runFn (n : Nat) (B : DS0) : Fn := fun ds O => match B (ds.map some ++ List.replicate (n - ds.length) none) O with
  | .nx _ O' => .ok .non O' | .ret d O' => .ok d O' | .exc e _ O' => .exc e O' | .bk _ _ => .bad | .ct _ _ => .bad | .bad => .bad
theorem rep_start {g : G} {N : List Str} {ds : List D} {vs : List V} (s : ShrL C.K g ds vs) : RepS C g (L2.start N vs) (ds.map some ++ List.replicate (N.length - ds.length) none) := by
  have hl := shrL_len s
  refine ⟨by simp [L2.start, hl], fun i d e => ?_⟩
  by_cases q : i < ds.length
  · rw [List.getElem?_append_left (by simpa using q), List.getElem?_map] at e
    cases z : ds[i]? with
    | none => rw [z] at e; cases e
    | some d' =>
      rw [z] at e
      simp at e
      subst e
      obtain ⟨v, h1, h2⟩ := shrL_get s z
      refine ⟨v, ?_, h2⟩
      unfold L2.start
      rw [List.getElem?_append_left (by simpa [hl] using q), List.getElem?_map, h1]
      rfl
  · rw [List.getElem?_append_right (by simpa using q)] at e
    rw [List.getElem?_replicate] at e
    split at e <;> cases e
section
variable {P : Program} {w : World} {K : PySem.W.Frag} {mg : Str → Option Value} {base : Heap}
theorem fn_okD {x qual : Str} {st : Stmt} {f : Addr} {fd : FuncData} {N ps : List Str} {k : Nat} {B : DS0} (F : Fun K x qual st f fd) (S : FnScope N ps (defScope st))
    (h : ∀ (cdv : Value) (A : Around) (outer : List Env) (s : Shared) (H : Hp) (E : XK), Room k (A.deeper (envOfC qual (defScope st) s.heap.objs.size f cdv)) →
      DSs C (cxOf (L2.CX P w) P w K mg base N qual (defScope st) f cdv A outer s H E) (fun cv dx _ H' => E cv dx H') (defBody st) B) :
    FnOk P w K mg base (L2.CX P w) (k + 1) f fd ps (spD C ps.length (runFn N.length B)) := by
  refine F.okX S (fun vs H Q E h => ?_) (fun cdv A outer s H vs Q E hr hsp => ?_)
  · obtain ⟨g, O, ds, h1, _, h2, _⟩ := h
    rw [shrL_len h2, h1]
  · obtain ⟨t, ht, hs⟩ := (h cdv A outer s H E hr).ex
    obtain ⟨g, O, ds, h1, R, s1, q⟩ := hsp
    refine ⟨t, ht, hs g _ H _ O R (rep_start s1) _ ?_⟩
    unfold runFn at q
    cases e : B (ds.map some ++ List.replicate (N.length - ds.length) none) O with
    | nx r O' => rw [e] at q; exact fun σ' g' H' e1 e2 e3 => q .non g' H' e1 e2 rfl
    | ret d O' => rw [e] at q; exact q
    | bk r O' => rw [e] at q; exact q.elim
    | ct r O' => rw [e] at q; exact q.elim
    | exc er r O' => rw [e] at q; exact fun cv dx σ' g' H' e1 e2 e3 e4 => q cv dx g' H' e1 e2 e4
    | bad => rw [e] at q; exact q
end
/-- a global def that keeps its promise -/
structure GF (P : Program) (w : World) (K : PySem.W.Frag) (mg : Str → Option Value) (base : Heap) (C : Ctx) (x : Str) (k np : Nat) (fn : Fn) : Prop where
  ex : ∃ f fd ps, ps.length = np ∧ FnOk P w K mg base (L2.CX P w) k f fd ps (spD C np fn) ∧ mg x = some (.ref f) ∧ PySem.W.keepIn K (.ref f) = true ∧ Binds K fd ps []
def fnE (np : Nat) (fn : Fn) (fas : Rho → Sto → Res (List D)) : DE0 := fun r O => (fas r O).bind fun ds O1 => if ds.length = np then fn ds O1 else .bad
theorem post_W {α β : Type} [Rel α β] {σ : L2.St} {g : G} {H : Hp} {x : Res α} {Q : β → Hp → Prop} (h : Post C W σ g H x Q) : Post C (fun cv dx _ H' => W cv dx σ H') [] g H x Q := by
  cases x with
  | ok d O => exact h
  | exc e O => exact h
  | bad => exact h
theorem sat_fn {t : TA} {np : Nat} {fn : Fn} {fas : Rho → Sto → Res (List D)} (sa : Sat C W t fas) : Sat C W (tCallS (spD C np fn) (WE W) t) (fnE np fn fas) := fun g σ H ρ O R S Q h =>
  sa.seq R S h fun ds O1 vs g1 H1 e1 R1 S1 s1 h1 => by
    split at h1
    · rename_i hl
      exact ⟨g1, O1, ds, hl, R1, s1, post_W h1⟩
    · exact h1.elim
variable {x m : Str} {p pos apos : Pos} {e o : Expr} {es : List Expr} {fas : Rho → Sto → Res (List D)} {fe fo : DE0} {k np : Nat} {fn : Fn}
theorem d_call (G1 : GF X.prog X.w X.K X.mg X.base C x k np fn) (hr : Room k X.A) (tk : Takes X W) (hg : Gl X x) (ha : DA C X W (e :: es) fas)
    (hdb : (x == ("__debug__" : Str)) = false := by decide) (he : starEach (e :: es) X.env = (false, eval e X.env) :: starEach es X.env := by rfl) (hpl : (backTo pos (starEach es X.env)).any (·.1) = false := by rfl) :
    DE C X W (.Call (.Name x p) (e :: es) [] pos) (fnE np fn fas) := by
  obtain ⟨f, fd, ps, h1, F, hm, hk, hb⟩ := G1.ex
  obtain ⟨_, pa, sa⟩ := ha.ex
  exact ⟨_, pe_callS F hr hg hm hk hb (fun σ => passAt tk σ) pa hdb he hpl, sat_fn sa⟩
theorem sat_nil : Sat C W tNil nilA := fun g σ H r O R S Q h => Post.fin R (by show ShrL _ _ [] []; simp [ShrL]) h
mutual
def noOb : D → Bool
  | .ob _ => false
  | .tup ds => noObL ds
  | .lst ds => noObL ds
  | .scr ds => noObL ds
  | _ => true
def noObL : List D → Bool
  | [] => true
  | d :: ds => noOb d && noObL ds
end
def noObF : List (Nat × D) → Bool
  | [] => true
  | p :: ds => noOb p.2 && noObF ds
mutual
theorem shr_noOb {K : PySem.W.Frag} {g g' : G} (h : ∀ a o, g.F a = some o → g'.F a = some o) : ∀ (d : D) (v : V), noOb d = true → Shr K g d v → Shr K g' d v
  | .non, _, _, s => s
  | .bl _, _, _, s => s
  | .int _, _, _, s => s
  | .str _, _, _, s => s
  | .tup ds, v, n, s => by
    simp only [Shr] at s ⊢
    obtain ⟨a, vs, h1, h2, h3⟩ := s
    exact ⟨a, vs, h1, ex_t h h2, shrL_noOb h ds vs (by simpa [noOb] using n) h3⟩
  | .lst ds, v, n, s => by
    simp only [Shr] at s ⊢
    obtain ⟨a, vs, h1, h2, h3⟩ := s
    exact ⟨a, vs, h1, h _ _ h2, shrL_noOb h ds vs (by simpa [noOb] using n) h3⟩
  | .scr ds, v, n, s => by
    simp only [Shr] at s ⊢
    obtain ⟨a, vs, h1, h2, h3⟩ := s
    exact ⟨a, vs, h1, ex_l h h2, shrL_noOb h ds vs (by simpa [noOb] using n) h3⟩
  | .ob _, _, n, _ => by simp [noOb] at n
theorem shrL_noOb {K : PySem.W.Frag} {g g' : G} (h : ∀ a o, g.F a = some o → g'.F a = some o) : ∀ (d : List D) (v : List V), noObL d = true → ShrL K g d v → ShrL K g' d v
  | [], _, _, s => by simp only [ShrL] at s ⊢; exact s
  | d :: ds, vs, n, s => by
    simp only [ShrL] at s ⊢
    obtain ⟨v, r, h1, h2, h3⟩ := s
    simp only [noObL, Bool.and_eq_true] at n
    exact ⟨v, r, h1, shr_noOb h d v n.1 h2, shrL_noOb h ds r n.2 h3⟩
end
theorem shrF_noOb {g g' : G} (h : ∀ a o, g.F a = some o → g'.F a = some o) : ∀ (d : List (Nat × D)) (v : List (Str × V)), noObF d = true → ShrF C g d v → ShrF C g' d v
  | [], _, _, s => s
  | p :: ds, vs, n, ⟨v, r, h1, h2, h3, h4⟩ => by
    simp only [noObF, Bool.and_eq_true] at n
    exact ⟨v, r, h1, h2, shr_noOb h _ _ n.1 h3, shrF_noOb h ds r n.2 h4⟩
/-- what a def gives over no cells, in the midst of any -/
def closeFn (fn : Fn) : Fn := fun ds O => if noObL ds then match fn ds [] with
  | .ok d _ => if noOb d then .ok d O else .bad
  | .exc e _ => if noObF e.fs then .exc e O else .bad
  | .bad => .bad else .bad
def G.none' (g : G) : G := { g with n := 0 }
theorem ErOk.to {g g' : G} {H : Hp} {e : Er} {cv : Value} {dx : Option Addr} (h : ∀ a o, g.F a = some o → g'.F a = some o) (n : noObF e.fs = true) (k : ErOk C g H e cv dx) : ErOk C g' H e cv dx := by
  obtain ⟨A, h1, h2, h3⟩ := k
  refine ⟨A, h1, h2, ?_⟩
  rcases h3 with h3 | ⟨d, vs, h3, h4, h5, h6⟩
  · exact .inl h3
  · exact .inr ⟨d, vs, h3, h4, h5, shrF_noOb h _ _ n h6⟩
theorem close_post {g : G} {H : Hp} {O : Sto} {ds : List D} {vs : List V} (R : RepO C g H O) (s : ShrL C.K g ds vs) {W' : WX} {σ : L2.St} {Q : VK} (h : Post C W' σ g H (closeFn fn ds O) Q) :
    RepO C g.none' H [] ∧ ShrL C.K g.none' ds vs ∧ Post C W' σ g.none' H (fn ds []) Q := by
  unfold closeFn at h
  split at h
  · rename_i hn
    refine ⟨⟨rfl, R.F, fun l c e => by simp at e, fun l hl => absurd hl (Nat.not_lt_zero _), fun i j hi => absurd hi (Nat.not_lt_zero _)⟩, shrL_noOb (g := g) (g' := g.none') (fun _ _ h => h) _ _ hn s, ?_⟩
    have back : ∀ {g' : G} {H' : Hp}, Ext g.none' H g' H' → (∀ a o, g'.F a = some o → H' a = some o) → RepO C { F := g'.F, θ := g.θ, n := g.n } H' O ∧ Ext g H { F := g'.F, θ := g.θ, n := g.n } H' := fun {g' H'} e hF => by
      have keep : ∀ a o, H a = some o → H' a = some o := fun a o q => e.keep a o q fun l hl => absurd hl (Nat.not_lt_zero _)
      have le : GLe g { F := g'.F, θ := g.θ, n := g.n } := ⟨e.le.F, fun _ _ => rfl, Nat.le_refl _⟩
      refine ⟨⟨R.n, hF, fun l c q => ?_, fun l hl => ?_, R.inj⟩, ⟨le, fun a o q _ => keep a o q, fun l h h' => absurd h' (Nat.not_lt.mpr h), fun l hl => ?_, fun a o q => e.frz a o q⟩⟩
      · have hl : l < g.n := by rw [R.n]; exact (List.getElem?_eq_some_iff.mp q).1
        obtain ⟨o, ho, _⟩ := (R.cell l c q).some'
        exact ((R.cell l c q).mono le).heap (by show H (g.θ l) = H' (g.θ l); rw [ho, keep _ _ ho])
      · show g'.F (g.θ l) = none
        cases q : g'.F (g.θ l) with
        | none => rfl
        | some o =>
          exfalso
          rcases e.frz _ o q with z | z
          · have z' : g.F (g.θ l) = some o := z
            rw [R.fresh l hl] at z'; cases z'
          · exact R.trk hl z
      · cases q : H (g.θ l) with
        | none => exact absurd q (R.trk hl)
        | some o => rw [keep _ _ q]; exact fun z => nomatch z
    cases q : fn ds [] with
    | ok d O' =>
      rw [q] at h
      simp only at h
      split at h
      · rename_i hd
        intro v g' H' e1 R1 s1
        obtain ⟨R2, e2⟩ := back e1 R1.F
        exact h v _ H' e2 R2 (shr_noOb (g := g') (g' := { F := g'.F, θ := g.θ, n := g.n }) (fun _ _ h => h) _ _ hd s1)
      · exact h.elim
    | exc e O' =>
      rw [q] at h
      simp only at h
      split at h
      · rename_i hd
        intro cv dx g' H' e1 R1 k1
        obtain ⟨R2, e2⟩ := back e1 R1.F
        exact h cv dx _ H' e2 R2 (ErOk.to (g := g') (g' := { F := g'.F, θ := g.θ, n := g.n }) (fun _ _ h => h) hd k1)
      · exact h.elim
    | bad => rw [q] at h; exact h.elim
  · exact h.elim
theorem GF.close {P : Program} {w : World} {K : PySem.W.Frag} {mg : Str → Option Value} {base : Heap} (h : GF P w K mg base C x k np fn) : GF P w K mg base C x k np (closeFn fn) := by
  obtain ⟨f, fd, ps, h1, F, h3⟩ := h.ex
  refine ⟨f, fd, ps, h1, F.imp fun vs H Q E ⟨g, O, ds, h4, R, s, q⟩ => ?_, h3⟩
  obtain ⟨R', s', q'⟩ := close_post R s q
  exact ⟨_, [], ds, h4, R', s', q'⟩
end
end Dn
set_option Elab.async false
set_option linter.all false
set_option maxRecDepth 100000
set_option maxHeartbeats 2000000
namespace Dn
open PySem PySem.Spec PyProof.Rows L2
section
variable {C : Ctx} {X : Cx} {W : WX}
variable {e a b c : Expr} {fe fa fb : DE0} {pos pos' : Pos} {st : Stmt} {rest sts : List Stmt} {f g : DS0} {ft : Rho → Sto → Res Bool}
def nilS : DS0 := fun r O => .nx r O
def consS (f g : DS0) : DS0 := fun r O => (f r O).bind g
theorem ss_nil : DSs C X W [] nilS := ⟨_, pss_nil, fun g σ H r O R S E h => h σ g H (Ext.refl R) R S⟩
theorem ss_one (h : DS C X W st f) : DSs C X W [st] f := let ⟨_, p, s⟩ := h.ex; ⟨_, pss_one p, s⟩
theorem ss_cons (h : DS C X W st f) (k : DSs C X W rest g) : DSs C X W (st :: rest) (consS f g) :=
  let ⟨_, p, s⟩ := h.ex; let ⟨_, q, t⟩ := k.ex
  ⟨_, pss_cons p q, fun g σ H r O R S E h => SatS.seq s R S h fun r' O' σ' g' H' e1 R1 S1 h1 => t g' σ' H' r' O' R1 S1 _ h1⟩
def exprS (f : DE0) : DS0 := fun r O => (f r O).bindS r fun _ O1 => .nx r O1
theorem s_expr (he : DE C X W e fe) (hs : swapsWith e none pos.line X.env = pure false := by rfl) : DS C X W (.Expr e pos) (exprS fe) :=
  let ⟨_, p, s⟩ := he.ex; ⟨_, ps_expr p hs, fun g σ H r O R S E h => s.seqS R S h fun d O1 v g1 H1 e1 R1 S1 s1 h1 => h1 σ g1 H1 (Ext.refl R1) R1 S1⟩
def contS : DS0 := fun r O => .ct r O
def retS (f : DE0) : DS0 := fun r O => (f r O).bindS r fun d O1 => .ret d O1
theorem s_ret (he : DE C X W e fe) : DS C X W (.Return (some e) pos) (retS fe) :=
  let ⟨_, p, s⟩ := he.ex; ⟨_, ps_ret p, fun g σ H r O R S E h => s.seqS R S h fun d O1 v g1 H1 e1 R1 S1 s1 h1 => h1 v g1 H1 (Ext.refl R1) R1 s1⟩
def ifS (c : Rho → Sto → Res Bool) (f g : DS0) : DS0 := fun r O => (c r O).bindS r fun k O1 => if k then f r O1 else g r O1
theorem s_if {xs ys : List Stmt} (hc : DT C X W c ft) (ha : DSs C X W xs f) (hb : DSs C X W ys g) : DS C X W (.If c xs ys pos) (ifS ft f g) :=
  let ⟨_, p, s⟩ := hc.ex; let ⟨_, q, t⟩ := ha.ex; let ⟨_, q', t'⟩ := hb.ex
  ⟨_, ps_if p q q', fun g σ H r O R S E h => s.seqS R S h fun k O1 k' g1 H1 e1 R1 S1 s1 h1 => by
    cases s1
    cases k with
    | true => rw [if_pos rfl]; exact t g1 σ H1 r O1 R1 S1 _ h1
    | false => rw [if_neg Bool.false_ne_true]; exact t' g1 σ H1 r O1 R1 S1 _ h1⟩
abbrev TG0 := D → Rho → Sto → Option (Rho × Sto)
def PostG (C : Ctx) (own : List Nat) (σ : L2.St) (g : G) (H : Hp) (x : Option (Rho × Sto)) (Q : L2.St → Hp → Prop) : Prop := match x with
  | none => False
  | some (r, O) => ∀ σ' g' H', Ext g H g' H' → RepO C g' H' O → RepS C g' σ' r → (∀ vs : List Nat, (∀ i ∈ own, i ∈ vs) → wipe σ' vs = wipe σ vs) → Q σ' H'
def SatG (C : Ctx) (own : List Nat) (t : TG) (f : TG0) : Prop := ∀ g σ H r O, RepO C g H O → RepS C g σ r → ∀ d v, Shr C.K g d v → ∀ Q, PostG C own σ g H (f d r O) Q → t v σ H Q
structure DG (C : Ctx) (X : Cx) (tg : Expr) (own : List Nat) (f : TG0) : Prop where
  ex : ∃ t, PG X tg t ∧ SatG C own t f
theorem set_wipe {σ : L2.St} {i : Nat} {v : Option V} : ∀ {vs : List Nat}, i ∈ vs → wipe (σ.set i v) vs = wipe σ vs
  | [], h => by cases h
  | j :: vs, h => by
    show (wipe (σ.set i v) vs).set j none = (wipe σ vs).set j none
    by_cases e : i ∈ vs
    · rw [set_wipe e]
    · have ij : i = j := by
        rcases List.mem_cons.mp h with h | h
        · exact h
        · exact absurd h e
      subst ij
      have : ∀ (ws : List Nat), i ∉ ws → wipe (σ.set i v) ws = (wipe σ ws).set i v := by
        intro ws
        induction ws with
        | nil => intro _; rfl
        | cons k ws ih =>
          intro hk
          simp only [List.mem_cons, not_or] at hk
          show (wipe (σ.set i v) ws).set k none = ((wipe σ ws).set k none).set i v
          rw [ih hk.2, List.set_comm _ _ hk.1]
      rw [this vs e, List.set_set]
def nameG (i : Nat) : TG0 := fun d r O => some (r.set i (some d), O)
theorem g_name (i : Nat) {x : Str} (hN : X.N.Nodup) (hi : X.N[i]? = some x := by rfl) (hx : Loc X.env.scope x := by first | exact Or.inl rfl | exact Or.inr rfl) (hf : X.fn x = true ∨ X.env.scope.names.lookup x = some .local := by first | exact .inl rfl | exact .inr rfl | assumption) : DG C X (.Name x pos) [i] (nameG i) :=
  ⟨_, pg_name hN hi hx hf, fun g σ H r O R S d v s Q h => h _ g H (Ext.refl R) R (S.set s) fun vs hv => set_wipe (hv i (by simp))⟩
abbrev TGs0 := List D → Rho → Sto → Option (Rho × Sto)
structure DGs (C : Ctx) (X : Cx) (ts : List Expr) (own : List Nat) (f : TGs0) : Prop where
  ex : ∃ t, PGs X ts t ∧ ∀ g σ H r O, RepO C g H O → RepS C g σ r → ∀ ds vs, ShrL C.K g ds vs → ∀ Q, PostG C own σ g H (f ds r O) Q → t vs σ H Q
def nilG : TGs0 := fun ds r O => match ds with | [] => some (r, O) | _ => none
def consG (f : TG0) (g : TGs0) : TGs0 := fun ds r O => match ds with | d :: ds => (match f d r O with | some (r1, O1) => g ds r1 O1 | none => none) | [] => none
theorem gs_nil : DGs C X [] [] nilG := ⟨_, pgs_nil, fun g σ H r O R S ds vs s Q h => by
  unfold nilG at h
  split at h
  · simp only [ShrL] at s; subst s
    exact ⟨rfl, h σ g H (Ext.refl R) R S fun _ _ => rfl⟩
  · exact h.elim⟩
theorem gs_cons {tg : Expr} {ts : List Expr} {o o' : List Nat} {f : TG0} {fs : TGs0} (h : DG C X tg o f) (k : DGs C X ts o' fs) (hs : (assignEach (tg :: ts) X.env).map (·.2) = assign tg X.env :: (assignEach ts X.env).map (·.2) := by rfl) :
    DGs C X (tg :: ts) (o ++ o') (consG f fs) :=
  let ⟨_, p, s⟩ := h.ex; let ⟨_, q, t⟩ := k.ex
  ⟨_, pgs_cons p q hs, fun g σ H r O R S ds vs sd Q h => by
    unfold consG at h
    split at h
    · rename_i d ds
      simp only [ShrL] at sd
      obtain ⟨v, vr, rfl, h2, h3⟩ := sd
      refine ⟨v, vr, rfl, s g σ H r O R S d v h2 _ ?_⟩
      split at h
      · rename_i r1 O1 e
        rw [e]
        intro σ1 g1 H1 e1 R1 S1 w1
        refine t g1 σ1 H1 r1 O1 R1 S1 ds vr (ShrL.mono e1.le _ _ h3) Q ?_
        cases q : fs ds r1 O1 with
        | none => rw [q] at h; exact h.elim
        | some z =>
          obtain ⟨r2, O2⟩ := z
          rw [q] at h
          exact fun σ2 g2 H2 e2 R2 S2 w2 => h σ2 g2 H2 (e1.trans e2) R2 S2 fun ws hw => (w2 ws fun i hi => hw i (by simp [hi])).trans (w1 ws fun i hi => hw i (by simp [hi]))
      · exact h.elim
    · exact h.elim⟩
/-- (a, b, ..) = a tuple or a list of that length -/
def tupG (n : Nat) (f : TGs0) : TG0 := fun d r O => match seqR d O with | some ds => if ds.length = n then f ds r O else none | none => none
theorem PG.or {tg : Expr} {t t' : TG} (h : PG X tg t) (h' : PG X tg t') : PG X tg (fun v σ H Q => t v σ H Q ∨ t' v σ H Q) :=
  ⟨fun pins s σ H v u Q I r q => q.elim (h.run pins s σ H v u Q I r) (h'.run pins s σ H v u Q I r)⟩
theorem g_tup {es : List Expr} {k : Nat} {own : List Nat} {fs : TGs0} {n : Nat} (hK : X.K = C.K) (hc : X.calm = true) (h : DGs C X es own fs)
    (hn : (assignEach es X.env).length = n := by rfl) (hst : (assignEach es X.env).findIdx? (·.1) = none := by rfl) : DG C X (.Tuple es k pos) own (tupG n fs) :=
  let ⟨_, p, s⟩ := h.ex
  ⟨_, PG.or (pg_tup hc p hn hst) (pg_lst hc p hn hst), fun g σ H r O R S d v sd Q h => by
    unfold tupG at h
    split at h
    · rename_i ds e
      split at h
      · rename_i hl
        obtain ⟨a, vs, rfl, h2, h3⟩ := seqR_of R sd e
        have hl' : vs.length = n := by rw [shrL_len h3]; exact hl
        rw [hK]
        rcases h2 with h2 | h2
        · exact .inr ⟨a, vs, rfl, h2, hl', s g σ H r O R S ds vs h3 Q h⟩
        · exact .inl ⟨a, vs, rfl, h2, hl', s g σ H r O R S ds vs h3 Q h⟩
      · exact h.elim
    · exact h.elim⟩
/-- name = e -/
def setS (i : Nat) (f : DE0) : DS0 := fun r O => (f r O).bindS r fun d O1 => .nx (r.set i (some d)) O1
theorem s_set (i : Nat) {x : Str} (hN : X.N.Nodup) (he : DE C X W e fe) (hi : X.N[i]? = some x := by rfl) (hx : Loc X.env.scope x := by first | exact Or.inl rfl | exact Or.inr rfl) (hs : swapsWith e (some (.Name x pos')) pos.line X.env = pure false := by rfl)
    (hf : X.fn x = true ∨ X.env.scope.names.lookup x = some .local := by first | exact .inl rfl | exact .inr rfl | assumption) : DS C X W (.Assign [.Name x pos'] e pos) (setS i fe) :=
  let ⟨_, p, s⟩ := he.ex; ⟨_, ps_set hN hi hx p hs hf, fun g σ H r O R S E h => s.seqS R S h fun d O1 v g1 H1 e1 R1 S1 s1 h1 => h1 _ g1 H1 (Ext.refl R1) R1 (S1.set s1)⟩
/-- target = e -/
def asgS (t : TG0) (f : DE0) : DS0 := fun r O => (f r O).bindS r fun d O1 => match t d r O1 with | some (r', O') => .nx r' O' | none => .bad
theorem s_asg {tg : Expr} {own : List Nat} {t : TG0} (he : DE C X W e fe) (hg : DG C X tg own t) (hs : swapsWithSole [tg] e pos.line X.env = pure false := by rfl) (hw : swappedStores [tg] e X.env = pure none := by rfl)
    (h1 : (assignEach [tg] X.env).map (·.2) = [assign tg X.env] := by rfl) : DS C X W (.Assign [tg] e pos) (asgS t fe) :=
  let ⟨_, p, s⟩ := he.ex; let ⟨_, q, u⟩ := hg.ex
  ⟨_, ps_asg p q hs hw h1, fun g σ H r O R S E h => s.seqS R S h fun d O1 v g1 H1 e1 R1 S1 s1 h1 => by
    refine u g1 σ H1 r O1 R1 S1 d v s1 _ ?_
    cases z : t d r O1 with
    | none => rw [z] at h1; exact h1.elim
    | some y =>
      obtain ⟨r', O'⟩ := y
      rw [z] at h1
      exact fun σ' g' H' e2 R2 S2 _ => h1 σ' g' H' e2 R2 S2⟩
/-- a[b] = e -/
def stoD (a b d : D) (O : Sto) : Option Sto := match a with
  | .ob l => match O[l]? with
    | some (.lst xs) => (match b with | .int i => (match ixN xs.length i with | some j => some (O.set l (.lst (xs.set j d))) | none => none) | _ => none)
    | some (.dic kvs) => (match keyD b with | some k => if kvs.length < sizeLine then some (O.set l (.dic (putD kvs k d))) else none | none => none)
    | _ => none
  | _ => none
def subG (fa fb : DE0) : TG0 := fun d r O => match fa r O with
  | .ok a O1 => (match fb r O1 with | .ok b O2 => (match stoD a b d O2 with | some O3 => some (r, O3) | none => none) | _ => none)
  | _ => none
def rSetA : TSet := fun o i v H Q => rSetL o i v H Q ∨ ∃ a H', o = .ref a ∧ DPut H a i v H' ∧ Q H'
theorem set_all (hu : X.A.units + 1 < cLine) : PSet X rSetA := by
  intro pins s σ H o i v ov iv u Q I r1 r2 r3 h
  rcases h with h | ⟨a, H', rfl, h2, h3⟩
  · exact set_list pins s σ H o i v ov iv u Q I r1 r2 r3 h
  · cases r1
    exact d_setItem hu I h2 r2 r3 fun s4 I4 => ⟨H', I4, h3⟩
theorem ok_seq {σ : L2.St} {gh : G} {H : Hp} {r : Rho} {O : Sto} {te : TE} {f : DE0} (p : Sat C W te f) (R : RepO C gh H O) (S : RepS C gh σ r) {d : D} {O' : Sto} (h : f r O = .ok d O') {Q : VK}
    (c : ∀ v g' H', Ext gh H g' H' → RepO C g' H' O' → RepS C g' σ r → Shr C.K g' d v → Q v H') : te σ H Q := by
  refine p gh σ H r O R S Q ?_
  rw [h]
  exact fun v g' H' e1 R1 s1 => c v g' H' e1 R1 (S.mono e1.le) s1
theorem g_sub (hu : X.A.units + 1 < cLine) (ha : DE C X W a fa) (hb : DE C X W b fb)
    (hs : ∀ v, assign (.Subscript a b pos) X.env v = (do
      let ov ← holding [v] (eval a X.env)
      let iv ← holding [v, ov] (eval b X.env)
      standAt pos
      holding [v, ov, iv] (setItem ov iv v)
      release [v, ov, iv] []) := by intro _; rfl) : DG C X (.Subscript a b pos) [] (subG fa fb) :=
  let ⟨_, p, s⟩ := ha.ex; let ⟨_, q, t⟩ := hb.ex
  ⟨_, pg_sub p q (set_all hu) hs, fun g σ H r O R S d v sd Q h => by
    unfold subG at h
    split at h
    · rename_i da O1 e1
      split at h
      · rename_i db O2 e2
        split at h
        · rename_i O3 e3
          refine ok_seq s R S e1 fun va g1 H1 x1 R1 S1 s1 => ok_seq t R1 S1 e2 fun vb g2 H2 x2 R2 S2 s2 => ?_
          have sd2 := Shr.mono (x1.le.trans x2.le) _ _ sd
          have s1' := Shr.mono x2.le _ _ s1
          unfold stoD at e3
          split at e3
          · rename_i l
            simp only [Shr] at s1'
            obtain ⟨rfl, hl⟩ := s1'
            split at e3
            · rename_i xs ec
              split at e3
              · rename_i i
                cases s2
                split at e3
                · rename_i j ej
                  cases e3
                  obtain ⟨vs, h1, h2⟩ := R2.cell l _ ec
                  refine .inl ⟨_, vs, i, j, rfl, rfl, h1, by rw [shrL_len h2]; exact ej, ?_⟩
                  exact h σ g2 _ ((x1.trans x2).trans (Ext.set R2 hl)) (R2.set hl ⟨_, upd_same, shrL_set sd2 j h2⟩) S2 fun _ _ => rfl
                · cases e3
              · cases e3
            · rename_i kvs ec
              split at e3
              · rename_i k ek
                split at e3
                · rename_i hz
                  cases e3
                  have := keyD_of s2 ek
                  subst this
                  obtain ⟨vs, h1, h2⟩ := R2.cell l _ ec
                  refine .inr ⟨_, _, rfl, DPut.k h1 (by rw [shrK_len h2]; exact hz), ?_⟩
                  exact h σ g2 _ ((x1.trans x2).trans (Ext.set R2 hl)) (R2.set hl ⟨_, upd_same, shrK_put sd2 h2⟩) S2 fun _ _ => rfl
                · cases e3
              · cases e3
            · cases e3
          · cases e3
        · exact h.elim
      · exact h.elim
    · exact h.elim⟩
def whileL (c : Rho → Sto → Res Bool) (b : DS0) : Nat → Rho → Sto → SR
  | 0, _, _ => .bad
  | n + 1, r, O => (c r O).bindS r fun k O1 => if k then (match b r O1 with
      | .nx r2 O2 => whileL c b n r2 O2 | .ct r2 O2 => whileL c b n r2 O2 | .bk r2 O2 => .nx r2 O2 | .ret d O2 => .ret d O2 | .exc e r2 O2 => .exc e r2 O2 | .bad => .bad) else .nx r O1
def whileS (n : Nat) (c : Rho → Sto → Res Bool) (b : DS0) : DS0 := whileL c b n
theorem s_while (n : Nat) {body : List Stmt} (hp : PassesOwn (model X.prog X.w) X.A X.env X.xe) (hc : DT C X W c ft) (hb : DSs C X W body f) : DS C X W (.While c body [] pos) (whileS n ft f) :=
  let ⟨_, p, s⟩ := hc.ex; let ⟨_, q, t⟩ := hb.ex
  ⟨_, ps_while hp p q, fun g0 σ0 H0 r0 O0 R0 S0 E h0 => by
    refine ⟨fun m σ H => ∃ g r O, RepO C g H O ∧ RepS C g σ r ∧ PostS C W g H (whileL ft f m r O) E, ⟨n, g0, r0, O0, R0, S0, h0⟩, ?_⟩
    rintro m σ H ⟨g, r, O, R, S, h⟩
    cases m with
    | zero => exact h.elim
    | succ m =>
      refine s.seqS R S (show PostS C W g H ((ft r O).bindS r _) E from h) fun k O1 k' g1 H1 e1 R1 S1 s1 h1 => ?_
      cases s1
      cases k with
      | false => exact h1 σ g1 H1 (Ext.refl R1) R1 S1
      | true =>
        refine ⟨fun σ' H' => ∃ g r O, RepO C g H' O ∧ RepS C g σ' r ∧ PostS C W g H' (whileL ft f m r O) E, fun σ' H' hh => ⟨m, Nat.lt_succ_self _, hh⟩, ?_⟩
        refine t g1 σ H1 r O1 R1 S1 _ ?_
        rw [if_pos rfl] at h1
        cases z : f r O1 with
        | nx r2 O2 => rw [z] at h1; exact fun σ' g' H' e2 R2 S2 => ⟨g', r2, O2, R2, S2, PostS.shift e2 h1⟩
        | ct r2 O2 => rw [z] at h1; exact fun σ' g' H' e2 R2 S2 => ⟨g', r2, O2, R2, S2, PostS.shift e2 h1⟩
        | bk r2 O2 => rw [z] at h1; exact h1
        | ret d O2 => rw [z] at h1; exact h1
        | exc e r2 O2 => rw [z] at h1; exact h1
        | bad => rw [z] at h1; exact h1⟩
mutual
def eqS : D → D → Bool
  | .non, .non => true
  | .bl a, .bl b => a == b
  | .int a, .int b => a == b
  | .str a, .str b => a == b
  | .tup a, .tup b => eqSL a b
  | .lst a, .lst b => eqSL a b
  | .scr a, .scr b => eqSL a b
  | .ob a, .ob b => a == b
  | _, _ => false
def eqSL : List D → List D → Bool
  | [], [] => true
  | a :: as, b :: bs => eqS a b && eqSL as bs
  | _, _ => false
end
mutual
theorem eqS_eq : ∀ {a b : D}, eqS a b = true → a = b
  | .non, b, h => by cases b <;> simp_all [eqS]
  | .bl _, b, h => by cases b <;> simp_all [eqS]
  | .int _, b, h => by cases b <;> simp_all [eqS]
  | .str _, b, h => by cases b <;> simp_all [eqS]
  | .ob _, b, h => by cases b <;> simp_all [eqS]
  | .tup a, b, h => by cases b <;> simp only [eqS] at h <;> first | (cases h; done) | rw [eqSL_eq h]
  | .lst a, b, h => by cases b <;> simp only [eqS] at h <;> first | (cases h; done) | rw [eqSL_eq h]
  | .scr a, b, h => by cases b <;> simp only [eqS] at h <;> first | (cases h; done) | rw [eqSL_eq h]
theorem eqSL_eq : ∀ {a b : List D}, eqSL a b = true → a = b
  | [], [], _ => rfl
  | [], _ :: _, h => by simp [eqSL] at h
  | _ :: _, [], h => by simp [eqSL] at h
  | x :: xs, y :: ys, h => by
    simp only [eqSL, Bool.and_eq_true] at h
    rw [eqS_eq h.1, eqSL_eq h.2]
end
mutual
theorem eqS_rfl : ∀ a : D, eqS a a = true
  | .non => by simp [eqS]
  | .bl _ => by simp [eqS]
  | .int _ => by simp [eqS]
  | .str _ => by simp [eqS]
  | .ob _ => by simp [eqS]
  | .tup a => by simp [eqS, eqSL_rfl a]
  | .lst a => by simp [eqS, eqSL_rfl a]
  | .scr a => by simp [eqS, eqSL_rfl a]
theorem eqSL_rfl : ∀ a : List D, eqSL a a = true
  | [] => by simp [eqSL]
  | x :: xs => by simp [eqSL, eqS_rfl x, eqSL_rfl xs]
end
/-- items that are walked; the cells that must hold still meanwhile -/
structure Src where
  items : List D
  still : List (Nat × List D)
def stillOk : List (Nat × List D) → Sto → Bool
  | [], _ => true
  | (l, ds) :: r, O => (match O[l]? with | some (.lst xs) => eqSL xs ds | _ => false) && stillOk r O
def ItOk (C : Ctx) (g : G) (s : Src) (J : It) : Prop := ∀ g' H' O' (i : Nat), GLe g g' → RepO C g' H' O' → stillOk s.still O' = true →
  (∀ d, s.items[i]? = some d → J.go i H' ∧ ∀ x H2, J.yld i H' x H2 → ∃ g2, Ext g' H' g2 H2 ∧ RepO C g2 H2 O' ∧ Shr C.K g2 d x) ∧ (s.items.length ≤ i → J.stop i H')
instance : Rel Src It := ⟨ItOk, fun e h g' H' O' i e' => h g' H' O' i (e.trans e')⟩
structure DI (C : Ctx) (X : Cx) (W : WX) (tg iter : Expr) (f : Rho → Sto → Res Src) : Prop where
  ex : ∃ wi, PI X tg iter wi ∧ Sat C W wi f
theorem PI.or {tg iter : Expr} {w w' : TI} (h : PI X tg iter w) (h' : PI X tg iter w') : PI X tg iter (fun σ H R => w σ H R ∨ w' σ H R) :=
  ⟨fun pins s σ H R I q => q.elim (h.run pins s σ H R I) (h'.run pins s σ H R I)⟩
/-- a sequence, a text -/
def srcD (d : D) (O : Sto) : Res Src := match d with
  | .str x => .ok ⟨x.map fun c => .str [c], []⟩ O
  | .tup ds => .ok ⟨ds, []⟩ O
  | .lst ds => .ok ⟨ds, []⟩ O
  | .scr ds => .ok ⟨ds, []⟩ O
  | .ob l => match O[l]? with | some (.lst ds) => .ok ⟨ds, [(l, ds)]⟩ O | _ => .bad
  | _ => .bad
def seqI (f : DE0) : Rho → Sto → Res Src := fun r O => (f r O).bind srcD
theorem itl_of {g : G} {a : Addr} {ds : List D} {vs : List V} {st : List (Nat × List D)} (h1 : ∀ g' H' O', GLe g g' → RepO C g' H' O' → stillOk st O' = true → ∃ vs, SqL C.K H' a vs ∧ ShrL C.K g' ds vs) : ItOk C g ⟨ds, st⟩ (Itl C.K a) := by
  intro g' H' O' i le R hs
  obtain ⟨vs, q1, h2⟩ := h1 g' H' O' le R hs
  refine ⟨fun d e => ?_, fun hl => ⟨vs, q1, by rw [shrL_len h2]; exact hl⟩⟩
  obtain ⟨v, e1, e2⟩ := shrL_get h2 e
  refine ⟨⟨vs, v, q1, e1⟩, fun x H2 y => ?_⟩
  obtain ⟨rfl, y⟩ := y
  have := y vs q1
  rw [e1] at this
  cases this
  exact ⟨g', Ext.refl R, R, e2⟩
theorem itt_of {g : G} {a : Addr} {ds : List D} {vs : List V} {st : List (Nat × List D)} (h1 : SqT C.K g.F a vs) (h2 : ShrL C.K g ds vs) : ItOk C g ⟨ds, st⟩ (Itt C.K a) := by
  intro g' H' O' i le R hs
  have q1 := ex_t R.F (ex_t le.F h1)
  refine ⟨fun d e => ?_, fun hl => ⟨vs, q1, by rw [shrL_len h2]; exact hl⟩⟩
  obtain ⟨v, e1, e2⟩ := shrL_get h2 e
  refine ⟨⟨vs, v, q1, e1⟩, fun x H2 y => ?_⟩
  obtain ⟨rfl, y⟩ := y
  have := y vs q1
  rw [e1] at this
  cases this
  exact ⟨g', Ext.refl R, R, e2.mono le⟩
theorem its_of {g : G} {x : List Nat} {st : List (Nat × List D)} : ItOk C g ⟨x.map fun c => .str [c], st⟩ (Its ⟨x.toArray⟩) := by
  intro g' H' O' i le R hs
  refine ⟨fun d e => ?_, fun hl => by show (Array.size _) ≤ i; simpa using hl⟩
  rw [List.getElem?_map] at e
  cases q : x[i]? with
  | none => rw [q] at e; cases e
  | some c =>
    rw [q] at e
    cases e
    refine ⟨by show i < Array.size _; simpa using (List.getElem?_eq_some_iff.mp q).1, fun v H2 y => ?_⟩
    obtain ⟨rfl, c', e1, rfl⟩ := y
    have : c' = c := by
      have e1' : x[i]? = some c' := by simpa using e1
      rw [q] at e1'; cases e1'; rfl
    subst this
    exact ⟨g', Ext.refl R, R, rfl⟩
theorem stillOk_at {l : Nat} {ds : List D} {O : Sto} (h : stillOk [(l, ds)] O = true) : O[l]? = some (.lst ds) := by
  unfold stillOk at h
  simp only [Bool.and_eq_true] at h
  have h := h.1
  split at h
  · rename_i xs e; rw [e, eqSL_eq h]
  · cases h
theorem i_seq {tg : Expr} (hK : X.K = C.K) (he : DE C X W e fe) : DI C X W tg e (seqI fe) :=
  let ⟨_, p, s⟩ := he.ex
  ⟨_, PI.or (pi_list p) (PI.or (pi_tup p) (pi_str p)), fun g σ H r O R S Q h => by
    unfold seqI at h
    cases q : fe r O with
    | bad => rw [q] at h; exact h.elim
    | exc er O1 => exact .inl (s g σ H r O R S _ (by rw [q] at h ⊢; exact h))
    | ok d O1 =>
      rw [q] at h
      have h : Post C W σ g H (srcD d O1) Q := h
      unfold srcD at h
      split at h
      · refine .inr (.inr (ok_seq s R S q fun v g1 H1 e1 R1 S1 s1 => ?_))
        cases s1
        exact ⟨_, rfl, Post.fin R1 its_of (Post.shift e1 h)⟩
      · refine .inr (.inl (ok_seq s R S q fun v g1 H1 e1 R1 S1 s1 => ?_))
        simp only [Shr] at s1
        obtain ⟨a, vs, rfl, h2, h3⟩ := s1
        rw [hK]
        exact ⟨a, rfl, ⟨vs, ex_t R1.F h2⟩, Post.fin R1 (itt_of h2 h3) (Post.shift e1 h)⟩
      · refine .inl (ok_seq s R S q fun v g1 H1 e1 R1 S1 s1 => ?_)
        simp only [Shr] at s1
        obtain ⟨a, vs, rfl, h2, h3⟩ := s1
        rw [hK]
        exact ⟨a, rfl, ⟨vs, SqL.of (R1.F _ _ h2)⟩, Post.fin R1 (itl_of (vs := vs) fun g' H' O' le R' _ => ⟨vs, SqL.of (R'.F _ _ (le.F _ _ h2)), ShrL.mono le _ _ h3⟩) (Post.shift e1 h)⟩
      · refine .inl (ok_seq s R S q fun v g1 H1 e1 R1 S1 s1 => ?_)
        simp only [Shr] at s1
        obtain ⟨a, vs, rfl, h2, h3⟩ := s1
        rw [hK]
        exact ⟨a, rfl, ⟨vs, ex_l R1.F h2⟩, Post.fin R1 (itl_of (vs := vs) fun g' H' O' le R' _ => ⟨vs, ex_l R'.F (ex_l le.F h2), ShrL.mono le _ _ h3⟩) (Post.shift e1 h)⟩
      · rename_i l _
        split at h
        · rename_i ds ec
          refine .inl (ok_seq s R S q fun v g1 H1 e1 R1 S1 s1 => ?_)
          simp only [Shr] at s1
          obtain ⟨rfl, hl⟩ := s1
          obtain ⟨vs, h2, h3⟩ := R1.cell l _ ec
          rw [hK]
          refine ⟨_, rfl, ⟨vs, SqL.of h2⟩, Post.fin R1 (itl_of (vs := vs) fun g' H' O' le R' hs => ?_) (Post.shift e1 h)⟩
          obtain ⟨ws, h4, h5⟩ := R'.cell l _ (stillOk_at hs)
          rw [le.θ l hl] at h4
          exact ⟨ws, SqL.of h4, h5⟩
        · exact h.elim
      · exact h.elim⟩
/-- range -/
def rangeD (i j : Int) : List D := (List.range (j - i).toNat).map fun (k : Nat) => D.int (i + (k : Int))
theorem itr_of {g : G} {i j : Int} {st : List (Nat × List D)} : ItOk C g ⟨rangeD i j, st⟩ (Itr i (j - i).toNat) := by
  intro g' H' O' k le R hs
  unfold rangeD
  refine ⟨fun d e => ?_, fun hl => by show _ ≤ k; simpa using hl⟩
  rw [List.getElem?_map] at e
  cases q : (List.range (j - i).toNat)[k]? with
  | none => rw [q] at e; cases e
  | some c =>
    rw [q] at e
    cases e
    have hk := (List.getElem?_eq_some_iff.mp q)
    obtain ⟨h1, h2⟩ := hk
    rw [List.length_range] at h1
    rw [List.getElem_range] at h2
    subst h2
    refine ⟨h1, fun v H2 y => ?_⟩
    obtain ⟨rfl, rfl⟩ := y
    exact ⟨g', Ext.refl R, R, rfl⟩
def fits (i : Int) : Bool := decide (-4611686018427387904 ≤ i) && decide (i < 4611686018427387904)
def range1F (ds : List D) (O : Sto) : Res Src := match ds with | [.int j] => if fits j then .ok ⟨rangeD 0 j, []⟩ O else .bad | _ => .bad
def range2F (ds : List D) (O : Sto) : Res Src := match ds with | [.int i, .int j] => if fits i && fits j then .ok ⟨rangeD i j, []⟩ O else .bad | _ => .bad
def downD (i j : Int) : List D := (List.range (i - j).toNat).map fun (k : Nat) => D.int (i - (k : Int))
def range3F (ds : List D) (O : Sto) : Res Src := match ds with | [.int i, .int j, .int c] => if fits i && fits j && c == -1 then .ok ⟨downD i j, []⟩ O else .bad | _ => .bad
def callI (f : List D → Sto → Res Src) (fas : Rho → Sto → Res (List D)) : Rho → Sto → Res Src := fun r O => (fas r O).bind f
variable {x : Str} {p : Pos} {es : List Expr} {fas : Rho → Sto → Res (List D)} {tg : Expr}
theorem i_range1 {a : Expr} (hg : Gl X "range") (hm : X.mg "range" = none) (ha : DA C X W [a] fas) (hs : starEach [a] X.env = [(false, eval a X.env)] := by rfl) : DI C X W tg (.Call (.Name "range" p) [a] [] pos) (callI range1F fas) :=
  let ⟨_, pa, sa⟩ := ha.ex
  ⟨_, pi_range1 hg hm pa hs, fun g σ H r O R S Q h => sa.seq R S h fun ds O1 vs g1 H1 e1 R1 S1 s1 h1 => by
    unfold range1F at h1
    split at h1
    · rename_i j
      obtain ⟨v, rfl, sv⟩ := shrL_one s1
      cases sv
      split at h1
      · rename_i hf
        simp only [fits, Bool.and_eq_true, decide_eq_true_eq] at hf
        refine ⟨j, rfl, by have := hf.1; omega, by have := hf.2; omega, Post.fin R1 ?_ h1⟩
        have := itr_of (C := C) (g := g1) (i := 0) (j := j) (st := [])
        rw [Int.sub_zero] at this
        exact this
      · exact h1.elim
    · exact h1.elim⟩
theorem i_range2 {a b : Expr} (hg : Gl X "range") (hm : X.mg "range" = none) (ha : DA C X W [a, b] fas) (hs : starEach [a, b] X.env = [(false, eval a X.env), (false, eval b X.env)] := by rfl) (hs2 : starEach [b] X.env = [(false, eval b X.env)] := by rfl) :
    DI C X W tg (.Call (.Name "range" p) [a, b] [] pos) (callI range2F fas) :=
  let ⟨_, pa, sa⟩ := ha.ex
  ⟨_, pi_range2 hg hm pa hs hs2, fun g σ H r O R S Q h => sa.seq R S h fun ds O1 vs g1 H1 e1 R1 S1 s1 h1 => by
    unfold range2F at h1
    split at h1
    · rename_i i j
      obtain ⟨v, v', rfl, sv, sv'⟩ := shrL_two s1
      cases sv; cases sv'
      split at h1
      · rename_i hf
        simp only [fits, Bool.and_eq_true, decide_eq_true_eq] at hf
        exact ⟨i, j, rfl, ⟨by have := hf.1.1; omega, by have := hf.1.2; omega, by have := hf.2.1; omega, by have := hf.2.2; omega⟩, Post.fin R1 itr_of h1⟩
      · exact h1.elim
    · exact h1.elim⟩
theorem itc_of {g : G} {i j : Int} {st : List (Nat × List D)} : ItOk C g ⟨downD i j, st⟩ (Itc i (-1) (i - j).toNat) := by
  intro g' H' O' k le R hs
  unfold downD
  refine ⟨fun d e => ?_, fun hl => by show _ ≤ k; simpa using hl⟩
  rw [List.getElem?_map] at e
  cases q : (List.range (i - j).toNat)[k]? with
  | none => rw [q] at e; cases e
  | some c =>
    rw [q] at e
    cases e
    have hk := (List.getElem?_eq_some_iff.mp q)
    obtain ⟨h1, h2⟩ := hk
    rw [List.length_range] at h1
    rw [List.getElem_range] at h2
    subst h2
    refine ⟨h1, fun v H2 y => ?_⟩
    obtain ⟨rfl, rfl⟩ := y
    refine ⟨g', Ext.refl R, R, ?_⟩
    show V.int _ = V.int _
    congr 1
    omega
theorem shrL_three {K : PySem.W.Frag} {g : G} {d d' d'' : D} {vs : List V} (h : ShrL K g [d, d', d''] vs) : ∃ v v' v'', vs = [v, v', v''] ∧ Shr K g d v ∧ Shr K g d' v' ∧ Shr K g d'' v'' := by
  simp only [ShrL] at h
  obtain ⟨v, r, rfl, h2, w, r', rfl, h3, u, r'', rfl, h4, rfl⟩ := h
  exact ⟨v, w, u, rfl, h2, h3, h4⟩
theorem i_range3 {a b c : Expr} (hg : Gl X "range") (hm : X.mg "range" = none) (ha : DA C X W [a, b, c] fas) (hs : starEach [a, b, c] X.env = (false, eval a X.env) :: starEach [b, c] X.env := by rfl) (hpl : (backTo pos (starEach [b, c] X.env)).any (·.1) = false := by rfl) :
    DI C X W tg (.Call (.Name "range" p) [a, b, c] [] pos) (callI range3F fas) :=
  let ⟨_, pa, sa⟩ := ha.ex
  ⟨_, pi_range3 hg hm pa hs hpl, fun g σ H r O R S Q h => sa.seq R S h fun ds O1 vs g1 H1 e1 R1 S1 s1 h1 => by
    unfold range3F at h1
    split at h1
    · rename_i i j c
      obtain ⟨v, v', v'', rfl, sv, sv', sv''⟩ := shrL_three s1
      cases sv; cases sv'; cases sv''
      split at h1
      · rename_i hf
        simp only [fits, Bool.and_eq_true, decide_eq_true_eq, beq_iff_eq] at hf
        obtain ⟨⟨f1, f2⟩, rfl⟩ := hf
        exact ⟨i, j, -1, _, rfl, RgC.neg (by have := f1.1; omega) (by have := f1.2; omega) (by have := f2.1; omega) (by have := f2.2; omega), Post.fin R1 itc_of h1⟩
      · exact h1.elim
    · exact h1.elim⟩
def forL (t : TG0) (b : DS0) (st : List (Nat × List D)) : List D → Rho → Sto → SR
  | [], r, O => if stillOk st O then .nx r O else .bad
  | d :: ds, r, O => if stillOk st O then (match t d r O with
      | none => .bad
      | some (r1, O1) => match b r1 O1 with
        | .nx r2 O2 => forL t b st ds r2 O2 | .ct r2 O2 => forL t b st ds r2 O2 | .bk r2 O2 => .nx r2 O2 | .ret d O2 => .ret d O2 | .exc e r2 O2 => .exc e r2 O2 | .bad => .bad) else .bad
def forS (src : Rho → Sto → Res Src) (t : TG0) (b : DS0) : DS0 := fun r O => (src r O).bindS r fun s O1 => forL t b s.still s.items r O1
theorem s_for {iter : Expr} {body : List Stmt} {src : Rho → Sto → Res Src} {own : List Nat} {t : TG0} (hp : PassesOwn (model X.prog X.w) X.A X.env X.xe) (hc : X.calm = true) (hi : DI C X W tg iter src) (hg : DG C X tg own t) (hb : DSs C X W body f) (hs : ∀ x, foldedSetIterable iter X.env x = pure x := by intro _; rfl) :
    DS C X W (.For tg iter body [] pos) (forS src t f) :=
  let ⟨_, p, s⟩ := hi.ex; let ⟨_, q, u⟩ := hg.ex; let ⟨_, pb, sb⟩ := hb.ex
  ⟨_, ps_for hp hc p q pb (hs := hs), fun g0 σ0 H0 r0 O0 R0 S0 E h0 => s.seqS R0 S0 h0 fun sr O1 J g1 H1 e1 R1 S1 j1 h1 => by
    have j1 : ItOk C g1 sr J := j1
    refine ⟨fun i m σ H => m = sr.items.length - i ∧ i ≤ sr.items.length ∧ ∃ g r O, GLe g1 g ∧ RepO C g H O ∧ RepS C g σ r ∧ PostS C W g H (forL t f sr.still (sr.items.drop i) r O) E, ⟨_, rfl, Nat.zero_le _, g1, r0, O1, GLe.refl _, R1, S1, h1⟩, ?_⟩
    rintro i m σ H ⟨rfl, hi, g, r, O, le, R, S, h⟩
    by_cases hlt : i < sr.items.length
    · obtain ⟨d, hd⟩ : ∃ d, sr.items[i]? = some d := ⟨_, List.getElem?_eq_getElem hlt⟩
      have hdrop : sr.items.drop i = d :: sr.items.drop (i + 1) := by
        rw [List.drop_eq_getElem_cons hlt]
        congr 1
        rw [List.getElem?_eq_getElem hlt] at hd
        exact Option.some.inj hd
      rw [hdrop] at h
      unfold forL at h
      split at h
      · rename_i hst
        obtain ⟨k1, _⟩ := j1 g H O i le R hst
        obtain ⟨k1, k2⟩ := k1 d hd
        refine .inr ⟨k1, fun σ' H' => ∃ g r O, GLe g1 g ∧ RepO C g H' O ∧ RepS C g σ' r ∧ PostS C W g H' (forL t f sr.still (sr.items.drop (i + 1)) r O) E, fun σ' H' hh => ⟨_, ?_, rfl, hlt, hh⟩, fun x H2 y => ?_⟩
        · omega
        obtain ⟨g2, e2, R2, s2⟩ := k2 x H2 y
        refine u g2 σ H2 r O R2 (S.mono e2.le) d x s2 _ ?_
        cases z : t d r O with
        | none => rw [z] at h; exact h.elim
        | some y =>
          obtain ⟨r1, O3⟩ := y
          rw [z] at h
          intro σ3 g3 H3 e3 R3 S3 _
          refine sb g3 σ3 H3 r1 O3 R3 S3 _ ?_
          have h := PostS.shift (e2.trans e3) h
          cases z2 : f r1 O3 with
          | nx r2 O2 => simp only [z2] at h; exact fun σ4 g4 H4 e4 R4 S4 => ⟨g4, r2, O2, le.trans (e2.le.trans (e3.le.trans e4.le)), R4, S4, PostS.shift e4 h⟩
          | ct r2 O2 => simp only [z2] at h; exact fun σ4 g4 H4 e4 R4 S4 => ⟨g4, r2, O2, le.trans (e2.le.trans (e3.le.trans e4.le)), R4, S4, PostS.shift e4 h⟩
          | bk r2 O2 => simp only [z2] at h; exact h
          | ret d O2 => simp only [z2] at h; exact h
          | exc e r2 O2 => simp only [z2] at h; exact h
          | bad => simp only [z2] at h; exact h
      · exact h.elim
    · have hi' : i = sr.items.length := by omega
      subst hi'
      rw [List.drop_length] at h
      unfold forL at h
      split at h
      · rename_i hst
        obtain ⟨_, k2⟩ := j1 g H O _ le R hst
        exact .inl ⟨k2 (Nat.le_refl _), h σ g H (Ext.refl R) R S⟩
      · exact h.elim⟩
def lcL (t : TG0) (c : Rho → Sto → Res Bool) (el : DE0) (st : List (Nat × List D)) (r : Rho) : List D → List D → Sto → Res (List D)
  | [], acc, O => if stillOk st O then .ok acc O else .bad
  | d :: ds, acc, O => if stillOk st O then (match t d r O with
      | none => .bad
      | some (r1, O1) => match c r1 O1 with
        | .ok true O2 => (match el r1 O2 with
          | .ok y O3 => if acc.length < sizeLine then lcL t c el st r ds (acc ++ [y]) O3 else .bad
          | _ => .bad)
        | .ok false O2 => lcL t c el st r ds acc O2
        | _ => .bad) else .bad
def yesT : Rho → Sto → Res Bool := fun _ O => .ok true O
def lcE (m : Bool) (src : Rho → Sto → Res Src) (t : TG0) (c : Rho → Sto → Res Bool) (el : DE0) (own : List Nat) : DE0 := fun r O => (src r O).bind fun s O1 => (lcL t c el s.still (wipeR r own) s.items [] O1).bind fun ds O2 => mkL m ds O2
structure DTs (C : Ctx) (X : Cx) (W : WX) (ifs : List Expr) (f : Rho → Sto → Res Bool) : Prop where
  ex : ∃ te, PTs X ifs te ∧ Sat C W te f
theorem ts_nil : DTs C X W [] yesT := ⟨_, pts_nil, fun g σ H r O R S Q h => Post.fin R rfl h⟩
theorem ts_one (h : DT C X W c ft) : DTs C X W [c] ft := let ⟨_, p, s⟩ := h.ex; ⟨_, pts_one p, s⟩
/-- a fresh thing that is no cell, whatever stands there -/
theorem Ext.over {g g' : G} {H H' : Hp} (e : Ext g H g' H') {p : Addr} {o : HO} (hp : H p = none) (hc : ∀ l, l < g.n → g.θ l ≠ p) : Ext g H g' (upd H' p o) :=
  ⟨e.le, fun a u q n => by rw [upd_ne (ne_of_none q hp)]; exact e.keep a u q n, e.new, fun l hl => by rw [upd_ne (hc l hl)]; exact e.trk l hl, e.frz⟩
theorem RepO.over {g : G} {H : Hp} {O : Sto} (R : RepO C g H O) {p : Addr} {o : HO} (hF : g.F p = none) (hc : ∀ l, l < g.n → g.θ l ≠ p) : RepO C g (upd H p o) O :=
  ⟨R.n, fun a u q => by rw [upd_ne fun z => by rw [z, hF] at q; cases q]; exact R.F a u q, fun l c q => (R.cell l c q).heap (by
    have hl : l < g.n := by rw [R.n]; exact (List.getElem?_eq_some_iff.mp q).1
    rw [upd_ne (hc l hl)]), R.fresh, R.inj⟩
theorem RepO.adopt {g : G} {H : Hp} {O : Sto} (R : RepO C g H O) {p : Addr} {o : HO} (hF : g.F p = none) (hH : H p = some o) (hc : ∀ l, l < g.n → g.θ l ≠ p) : RepO C (g.frz p o) H O := by
  have le := GLe.frz (g := g) (o := o) hF
  refine ⟨R.n, fun a u e => ?_, fun l c e => (R.cell l c e).mono le, fun l hl => ?_, R.inj⟩
  · by_cases q : a = p
    · subst q
      have e' : upd g.F a o a = some u := e
      rw [upd_same] at e'; rw [hH]; exact e'
    · have e' : upd g.F p o a = some u := e
      rw [upd_ne q] at e'
      exact R.F a u e'
  · show upd g.F p o (g.θ l) = none
    rw [upd_ne (hc l hl)]; exact R.fresh l hl
theorem Ext.adopt {g g' : G} {H H' : Hp} (e : Ext g H g' H') {p : Addr} {o : HO} (hp : H p = none) (hF : g'.F p = none) : Ext g H (g'.frz p o) H' :=
  ⟨e.le.trans (GLe.frz hF), e.keep, e.new, e.trk, fun a u q => by
    by_cases z : a = p
    · subst z; exact .inr hp
    · have q' : upd g'.F p o a = some u := q
      rw [upd_ne z] at q'
      exact e.frz a u q'⟩
theorem RepO.adoptC {g : G} {H : Hp} {O : Sto} (R : RepO C g H O) {p : Addr} {c : Cell} (hF : g.F p = none) (hc : ∀ l, l < g.n → g.θ l ≠ p) (new : CellOk C (g.add p) H p c) : RepO C (g.add p) H (O ++ [c]) := by
  refine ⟨by show g.n + 1 = _; simp [R.n], R.F, fun l c' e => ?_, fun l hl => ?_, fun i j hi hj e => ?_⟩
  · by_cases q : l < g.n
    · rw [List.getElem?_append_left (by rw [← R.n]; exact q)] at e
      rw [G.add_ne q]
      exact (R.cell l c' e).mono GLe.add
    · have hl : l < (O ++ [c]).length := (List.getElem?_eq_some_iff.mp e).1
      simp at hl
      have el : l = g.n := by have := R.n; omega
      subst el
      rw [G.add_at]
      rw [R.n, List.getElem?_concat_length] at e
      cases e
      exact new
  · by_cases q : l < g.n
    · rw [G.add_ne q]; exact R.fresh l q
    · have hl : l < g.n + 1 := hl
      have el : l = g.n := by omega
      subst el
      rw [G.add_at]
      exact hF
  · have hi : i < g.n + 1 := hi
    have hj : j < g.n + 1 := hj
    by_cases qi : i < g.n
    · by_cases qj : j < g.n
      · rw [G.add_ne qi, G.add_ne qj] at e
        exact R.inj i j qi qj e
      · have ej : j = g.n := by omega
        subst ej
        rw [G.add_ne qi, G.add_at] at e
        exact absurd e (hc i qi)
    · have ei : i = g.n := by omega
      subst ei
      by_cases qj : j < g.n
      · rw [G.add_ne qj, G.add_at] at e
        exact absurd e.symm (hc j qj)
      · omega
theorem Ext.adoptC {g g' : G} {H H' : Hp} (e : Ext g H g' H') {p : Addr} (hp : H p = none) : Ext g H (g'.add p) H' :=
  ⟨e.le.trans GLe.add, e.keep, fun l h h' => by
    by_cases q : l < g'.n
    · rw [G.add_ne q]; exact e.new l h q
    · have h' : l < g'.n + 1 := h'
      have el : l = g'.n := by omega
      subst el
      rw [G.add_at]; exact hp, e.trk, e.frz⟩
/-- what stands at q0: the list so far -/
structure LcAt (C : Ctx) (g1 : G) (H1 : Hp) (q0 : Addr) (g : G) (H : Hp) (O : Sto) (acc : List D) : Prop where
  ext : Ext g1 H1 g H
  rep : RepO C g H O
  F : g.F q0 = none
  c : ∀ l, l < g.n → g.θ l ≠ q0
  at' : ∃ vs, H q0 = some (.lst vs) ∧ ShrL C.K g acc vs
theorem LcAt.next {g1 g g' : G} {H1 H H' : Hp} {q0 : Addr} {O O' : Sto} {acc : List D} (L : LcAt C g1 H1 q0 g H O acc) (e : Ext g H g' H') (R : RepO C g' H' O') : LcAt C g1 H1 q0 g' H' O' acc := by
  obtain ⟨vs, h1, h2⟩ := L.at'
  have hD : H q0 ≠ none := by rw [h1]; exact fun z => nomatch z
  refine ⟨L.ext.trans e, R, ?_, fun l hl z => ?_, vs, e.keep q0 _ h1 L.c, ShrL.mono e.le _ _ h2⟩
  · cases q : g'.F q0 with
    | none => rfl
    | some o =>
      rcases e.frz q0 o q with z | z
      · rw [L.F] at z; cases z
      · exact absurd z hD
  · by_cases q : l < g.n
    · rw [e.le.θ l q] at z; exact L.c l q z
    · have := e.new l (Nat.le_of_not_lt q) hl
      rw [z] at this
      exact hD this
theorem LcAt.push {g1 g : G} {H1 H : Hp} {q0 : Addr} {O : Sto} {acc : List D} {d : D} {v : V} {vs : List V} (L : LcAt C g1 H1 q0 g H O acc) (hp : H1 q0 = none) (hc1 : ∀ l, l < g1.n → g1.θ l ≠ q0) (h : H q0 = some (.lst vs)) (sv : ShrL C.K g acc vs) (s : Shr C.K g d v) :
    LcAt C g1 H1 q0 g (upd H q0 (.lst (vs ++ [v]))) O (acc ++ [d]) := by
  refine ⟨Ext.over L.ext hp hc1, RepO.over L.rep L.F L.c, L.F, L.c, vs ++ [v], upd_same, shrL_append sv ?_⟩
  simp only [ShrL]
  exact ⟨v, [], rfl, s, rfl⟩
theorem wipe_out' {i : Nat} : ∀ (ws : List Nat) (σ : L2.St), i ∉ ws → wipe (σ.set i none) ws = (wipe σ ws).set i none
  | [], _, _ => rfl
  | a :: ws, σ, hk => by
    simp only [List.mem_cons, not_or] at hk
    show (wipe (σ.set i none) ws).set a none = ((wipe σ ws).set a none).set i none
    rw [wipe_out' ws σ hk.2, List.set_comm _ _ hk.1]
theorem wipe_idem : ∀ (ws : List Nat) (σ : L2.St), wipe (wipe σ ws) ws = wipe σ ws
  | [], _ => rfl
  | k :: ks, σ => by
    show (wipe ((wipe σ ks).set k none) ks).set k none = (wipe σ ks).set k none
    by_cases e : k ∈ ks
    · rw [set_wipe e, wipe_idem ks]
    · rw [wipe_out' ks _ e, wipe_idem ks, List.set_set]
theorem lc_sat {wi : TI} {src : Rho → Sto → Res Src} {tgr : TG} {t : TG0} {tt : TT} {te : TE} {cf : Rho → Sto → Res Bool} {el : DE0} {own own' : List Nat} {m : Bool}
    (s : Sat C W wi src) (u : SatG C own' tgr t) (hown : ∀ i ∈ own', i ∈ own) (sc : Sat C (fun _ _ _ _ => False) tt cf) (se : Sat C (fun _ _ _ _ => False) te el) : Sat C W (tLc wi tgr tt te own) (lcE m src t cf el own) := fun g0 σ0 H0 r0 O0 R0 S0 Q h0 =>
  s.seq R0 S0 h0 fun sr O1 J g1 H1 e1 R1 S1 j1 h1 => by
    have j1 : ItOk C g1 sr J := j1
    intro D hD
    have hc1 : ∀ l, l < g1.n → g1.θ l ≠ D := fun l hl => R1.ne hD hl
    have Sw := S1.wipe own
    refine ⟨fun i m' H => m' = sr.items.length - i ∧ i ≤ sr.items.length ∧ ∃ g O acc, LcAt C g1 H1 D g H O acc ∧ Post C W σ0 g1 H1 ((lcL t cf el sr.still (wipeR r0 own) (sr.items.drop i) acc O).bind fun ds O2 => mkL m ds O2) Q,
      ⟨_, rfl, Nat.zero_le _, g1, O1, [], ⟨Ext.over (Ext.refl R1) hD hc1, RepO.over R1 (R1.Fnone hD) hc1, R1.Fnone hD, hc1, [], upd_same, by simp [ShrL]⟩, h1⟩, ?_⟩
    rintro i m' H ⟨rfl, hi, g, O, acc, L, h⟩
    by_cases hlt : i < sr.items.length
    · obtain ⟨d, hd⟩ : ∃ d, sr.items[i]? = some d := ⟨_, List.getElem?_eq_getElem hlt⟩
      have hdrop : sr.items.drop i = d :: sr.items.drop (i + 1) := by
        rw [List.drop_eq_getElem_cons hlt]
        congr 1
        rw [List.getElem?_eq_getElem hlt] at hd
        exact Option.some.inj hd
      rw [hdrop] at h
      unfold lcL at h
      split at h
      · rename_i hst
        obtain ⟨k1, _⟩ := j1 g H O i L.ext.le L.rep hst
        obtain ⟨k1, k2⟩ := k1 d hd
        refine .inr ⟨k1, fun H' => ∃ g O acc, LcAt C g1 H1 D g H' O acc ∧ Post C W σ0 g1 H1 ((lcL t cf el sr.still (wipeR r0 own) (sr.items.drop (i + 1)) acc O).bind fun ds O2 => mkL m ds O2) Q, fun H' hh => ⟨_, ?_, rfl, hlt, hh⟩, fun x H2 y => ?_⟩
        · omega
        obtain ⟨g2, e2, R2, s2⟩ := k2 x H2 y
        have L2 := L.next e2 R2
        refine u g2 _ H2 _ O R2 (Sw.mono (L2.ext.le)) d x s2 _ ?_
        cases z : t d (wipeR r0 own) O with
        | none => rw [z] at h; exact h.elim
        | some y =>
          obtain ⟨r1, O3⟩ := y
          rw [z] at h
          intro σ3 g3 H3 e3 R3 S3 w3
          refine ⟨?_, ?_⟩
          · rw [w3 own hown]
            exact wipe_idem own σ0
          have L3 := L2.next e3 R3
          refine sc g3 σ3 H3 r1 O3 R3 S3 _ ?_
          cases z2 : cf r1 O3 with
          | bad => simp only [z2] at h; exact h.elim
          | exc er O4 => simp only [z2] at h; exact h.elim
          | ok b O4 =>
            simp only [z2] at h
            intro b' g4 H4 e4 R4 sb
            cases sb
            have L4 := L3.next e4 R4
            cases b with
            | false => exact ⟨g4, O4, acc, L4, h⟩
            | true =>
              simp only at h
              rw [if_pos rfl]
              refine se g4 σ3 H4 r1 O4 R4 (S3.mono e4.le) _ ?_
              cases z3 : el r1 O4 with
              | bad => simp only [z3] at h; exact h.elim
              | exc er O5 => simp only [z3] at h; exact h.elim
              | ok y O5 =>
                simp only [z3] at h
                intro v g5 H5 e5 R5 s5
                have L5 := L4.next e5 R5
                obtain ⟨vs, a1, a2⟩ := L5.at'
                split at h
                · rename_i hz
                  exact ⟨vs, a1, by rw [shrL_len a2]; exact hz, g5, O5, acc ++ [y], L5.push hD hc1 a1 a2 s5, h⟩
                · exact h.elim
      · exact h.elim
    · have hi' : i = sr.items.length := by omega
      subst hi'
      rw [List.drop_length] at h
      unfold lcL at h
      split at h
      · rename_i hst
        obtain ⟨_, k2⟩ := j1 g H O _ L.ext.le L.rep hst
        refine .inl ⟨k2 (Nat.le_refl _), ?_⟩
        have h : Post C W σ0 g1 H1 (mkL m acc O) Q := h
        obtain ⟨vs, a1, a2⟩ := L.at'
        cases m with
        | false =>
          refine h _ (g.frz D (.lst vs)) H (L.ext.adopt hD L.F) (L.rep.adopt L.F a1 L.c) ?_
          show Shr _ _ (.lst acc) _
          simp only [Shr]
          exact ⟨D, vs, rfl, upd_same, ShrL.mono (GLe.frz L.F) _ _ a2⟩
        | true =>
          refine h _ (g.add D) H (L.ext.adoptC hD) (L.rep.adoptC L.F L.c ⟨vs, a1, ShrL.mono GLe.add _ _ a2⟩) ?_
          show Shr _ _ (.ob O.length) _
          simp only [Shr]
          rw [← L.rep.n, G.add_at]
          exact ⟨rfl, Nat.lt_succ_self _⟩
      · exact h.elim
end
end Dn
set_option Elab.async false
set_option linter.all false
set_option maxRecDepth 100000
set_option maxHeartbeats 2000000
namespace PySem
open AutoSeq1 (wpAny_loadPart')
end PySem
namespace Dn
open PySem PySem.Spec PyProof.Rows L2
end Dn
set_option Elab.async false
set_option linter.all false
set_option maxRecDepth 100000
set_option maxHeartbeats 2000000
namespace Dn
open PySem PySem.Spec PyProof.Rows L2
section
variable {C : Ctx} {X : Cx} {W : WX}
/-- no error is wished for -/
abbrev W0 : WX := fun _ _ _ _ => False
variable {elt tg iter e o value : Expr} {ifs : List Expr} {scope : Scope} {pos pos' spos : Pos} {src : Rho → Sto → Res Src} {t : TG0} {cf ft : Rho → Sto → Res Bool} {el fe fo fv : DE0}
/-- the weakest reading of a pure function -/
def canon {α β : Type} [Rel α β] (C : Ctx) (W : WX) (f : Rho → Sto → Res α) : L2.St → Hp → (β → Hp → Prop) → Prop := fun σ H Q => ∃ g r O, RepO C g H O ∧ RepS C g σ r ∧ Post C W σ g H (f r O) Q
theorem canon_sat {α β : Type} [Rel α β] {f : Rho → Sto → Res α} : Sat C W (canon C W f) f := fun g σ H r O R S Q h => ⟨g, r, O, R, S, h⟩
theorem DE.canon {f : DE0} (h : DE C X W e f) : PE X e (canon C W f) := by
  obtain ⟨te, p, s⟩ := h.ex
  exact ⟨fun pins st σ H Q I ⟨g, r, O, R, S, q⟩ => p.run pins st σ H Q I (s g σ H r O R S Q q)⟩
theorem DTs.canon {f : Rho → Sto → Res Bool} (h : DTs C X W ifs f) : PTs X ifs (canon C W f) := by
  obtain ⟨te, p, s⟩ := h.ex
  exact ⟨fun pins st σ H Q I ⟨g, r, O, R, S, q⟩ => p.run pins st σ H Q I (s g σ H r O R S Q q)⟩
def canonG (C : Ctx) (own : List Nat) (f : TG0) : TG := fun v σ H Q => ∃ g r O d, RepO C g H O ∧ RepS C g σ r ∧ Shr C.K g d v ∧ PostG C own σ g H (f d r O) Q
theorem canonG_sat {own : List Nat} {f : TG0} : SatG C own (canonG C own f) f := fun g σ H r O R S d v s Q h => ⟨g, r, O, d, R, S, s, h⟩
theorem DG.canon {own : List Nat} {f : TG0} (h : DG C X tg own f) : PG X tg (canonG C own f) := by
  obtain ⟨t, p, s⟩ := h.ex
  exact ⟨fun pins st σ H v u Q I rv ⟨g, r, O, d, R, S, sv, q⟩ => p.run pins st σ H v u Q I rv (s g σ H r O R S d v sv Q q)⟩
/-- [elt for tg in iter if ..]; own: the block's names and slots -/
theorem d_lc (m : Bool) (own : List (Str × Nat)) {own' : List Nat} (hc : X.calm = true) (hN : X.N.Nodup) (hi : DI C X W tg iter src) (ok : blkC X.N X.env.scope scope own = true) (hown : own'.all (fun i => (own.map (·.2)).contains i) = true)
    (hg : ∀ (s : Shared) (H : Hp) (A : Addr) (cl : List (Str × Addr)) (fp : List Addr), DG C (X.blk s H scope (compEnvC scope cl A X.env) fp) tg own' t)
    (ht : ∀ (s : Shared) (H : Hp) (A : Addr) (cl : List (Str × Addr)) (fp : List Addr), DTs C (X.blk s H scope (compEnvC scope cl A X.env) fp) W0 ifs cf)
    (he : ∀ (s : Shared) (H : Hp) (A : Addr) (cl : List (Str × Addr)) (fp : List Addr), DE C (X.blk s H scope (compEnvC scope cl A X.env) fp) W0 elt el)
    (hs : ∀ x, foldedSetIterable iter X.env x = pure x := by intro _; rfl) : DE C X W (.ListComp elt [⟨tg, iter, ifs, 0⟩] scope pos) (lcE m src t cf el (own.map (·.2))) := by
  obtain ⟨wi, pi, si⟩ := hi.ex
  exact ⟨_, pe_lc hc hN pi (blkOk_by ok) (fun s H A cl fp => (hg s H A cl fp).canon) (fun s H A cl fp => (ht s H A cl fp).canon) (fun s H A cl fp => (he s H A cl fp).canon) hs,
    lc_sat si canonG_sat (fun i hi => by simpa using List.all_eq_true.mp hown i hi) canon_sat canon_sat⟩
/-- name = [..] on one line -/
theorem s_setLc (m : Bool) (own : List (Str × Nat)) (i : Nat) {y : Str} {py : Pos} {own' : List Nat} (hc : X.calm = true) (hN : X.N.Nodup) (hi : DI C X W tg iter src) (ok : blkC X.N X.env.scope scope own = true) (hown : own'.all (fun i => (own.map (·.2)).contains i) = true)
    (hg : ∀ (s : Shared) (H : Hp) (A : Addr) (cl : List (Str × Addr)) (fp : List Addr), DG C (X.blk s H scope (compEnvC scope cl A X.env) fp) tg own' t)
    (ht : ∀ (s : Shared) (H : Hp) (A : Addr) (cl : List (Str × Addr)) (fp : List Addr), DTs C (X.blk s H scope (compEnvC scope cl A X.env) fp) W0 ifs cf)
    (he : ∀ (s : Shared) (H : Hp) (A : Addr) (cl : List (Str × Addr)) (fp : List Addr), DE C (X.blk s H scope (compEnvC scope cl A X.env) fp) W0 elt el)
    (hsw : swapsWith (.ListComp elt [⟨tg, iter, ifs, 0⟩] scope pos) (some (.Name y py)) spos.line X.env = pure true)
    (hy : X.N[i]? = some y := by rfl) (hyl : X.env.scope.names.lookup y = some .local := by rfl) (hs : ∀ x, foldedSetIterable iter X.env x = pure x := by intro _; rfl) :
    DS C X W (.Assign [.Name y py] (.ListComp elt [⟨tg, iter, ifs, 0⟩] scope pos) spos) (setS i (lcE m src t cf el (own.map (·.2)))) := by
  obtain ⟨wi, pi, si⟩ := hi.ex
  exact ⟨_, ps_setLc hc hN hy hyl hsw pi (blkOk_by ok) (fun s H A cl fp => (hg s H A cl fp).canon) (fun s H A cl fp => (ht s H A cl fp).canon) (fun s H A cl fp => (he s H A cl fp).canon) hs,
    fun g σ H r O R S E h => Sat.seqS (lc_sat si canonG_sat (fun i hi => by simpa using List.all_eq_true.mp hown i hi) canon_sat canon_sat) R S h fun d O1 v g1 H1 e1 R1 S1 s1 h1 => h1 _ g1 H1 (Ext.refl R1) R1 (S1.set s1)⟩
def zipD : List D → List D → List D
  | a :: as, b :: bs => .tup [a, b] :: zipD as bs
  | _, _ => []
def enumD (n : Nat) : List D → List D
  | [] => []
  | d :: ds => .tup [.int (n : Nat), d] :: enumD (n + 1) ds
/-- how a list that is read holds still -/
def stillD (d : D) (ds : List D) : List (Nat × List D) := match d with | .ob l => [(l, ds)] | _ => []
def zipF (ds : List D) (O : Sto) : Res Src := match ds with
  | [.tup as, .tup bs] => .ok ⟨zipD as bs, []⟩ O
  | [a, b] => match listR a O, listR b O with | some as, some bs => .ok ⟨zipD as bs, stillD a as ++ stillD b bs⟩ O | _, _ => .bad
  | _ => .bad
variable {p tpos : Pos} {elts es : List Expr} {kk : Nat} {fas : Rho → Sto → Res (List D)} {a b : Expr}
def enumF (ds : List D) (O : Sto) : Res Src := match ds with
  | [.tup as] => .ok ⟨enumD 0 as, []⟩ O
  | [a] => match listR a O with | some as => .ok ⟨enumD 0 as, stillD a as⟩ O | none => .bad
  | _ => .bad
/-- what the top says of the classes -/
structure Facts (C : Ctx) : Prop where
  cls : ∀ c A, C.cl c = some A → Cls C.K A
  noa : ∀ c A f, C.cl c = some A → C.att c f = true → NoAttr C.K A (C.fn f)
def putFD (f : Nat) (d : D) : List (Nat × D) → List (Nat × D)
  | [] => [(f, d)]
  | p :: r => if p.1 = f then (f, d) :: r else p :: putFD f d r
def getFD (f : Nat) : List (Nat × D) → Option D
  | [] => none
  | p :: r => if p.1 = f then some p.2 else getFD f r
theorem shrF_get {g : G} {f : Nat} (hf : f < C.fN) : ∀ {fs : List (Nat × D)} {vs : List (Str × V)} {d : D}, ShrF C g fs vs → getFD f fs = some d → ∃ v, vs.lookup (C.fn f) = some v ∧ Shr C.K g d v
  | [], vs, d, h, e => by simp [getFD] at e
  | p :: fs, vs, d, ⟨v, r, h1, h2, h3, h4⟩, e => by
    subst h1
    unfold getFD at e
    split at e
    · rename_i q
      cases e
      refine ⟨v, ?_, h3⟩
      rw [q]
      simp [List.lookup]
    · rename_i q
      obtain ⟨w, k1, k2⟩ := shrF_get hf h4 e
      refine ⟨w, ?_, k2⟩
      have : (C.fn f == C.fn p.1) = false := by
        rw [beq_eq_false_iff_ne]
        exact fun z => q (C.finj _ _ hf h2 z).symm
      simp only [List.lookup, this]
      exact k1
theorem shrF_put {g : G} {f : Nat} {d : D} {v : V} (hf : f < C.fN) (s : Shr C.K g d v) : ∀ {fs : List (Nat × D)} {vs : List (Str × V)}, ShrF C g fs vs → ShrF C g (putFD f d fs) (putF (C.fn f) v vs)
  | [], vs, h => by
    simp only [ShrF] at h; subst h
    exact ⟨v, [], rfl, hf, s, rfl⟩
  | p :: fs, vs, ⟨w, r, h1, h2, h3, h4⟩ => by
    subst h1
    unfold putFD putF
    by_cases q : p.1 = f
    · rw [if_pos q, if_pos (by rw [q])]
      exact ⟨v, r, by rw [q], hf, s, h4⟩
    · rw [if_neg q, if_neg fun z => q (C.finj _ _ h2 hf z)]
      exact ⟨w, _, rfl, h2, h3, shrF_put hf s h4⟩
theorem shrF_len {g : G} : ∀ {fs : List (Nat × D)} {vs : List (Str × V)}, ShrF C g fs vs → vs.length = fs.length
  | [], vs, h => by simp only [ShrF] at h; subst h; rfl
  | p :: fs, vs, ⟨w, r, h1, h2, h3, h4⟩ => by subst h1; simp [shrF_len h4]
theorem shrF_none {g : G} {m : Str} (hm : ∀ i, i < C.fN → C.fn i ≠ m) : ∀ {fs : List (Nat × D)} {vs : List (Str × V)}, ShrF C g fs vs → vs.lookup m = none
  | [], vs, h => by simp only [ShrF] at h; subst h; rfl
  | p :: fs, vs, ⟨w, r, h1, h2, h3, h4⟩ => by
    subst h1
    have : (m == C.fn p.1) = false := by
      rw [beq_eq_false_iff_ne]
      exact fun z => hm _ h2 z.symm
    simp only [List.lookup, this]
    exact shrF_none hm h4
def fldE (att : Nat → Nat → Bool) (f : Nat) (fo : DE0) : DE0 := fun r O => (fo r O).bind fun d O1 => match d with
  | .ob l => (match O1[l]? with
    | some (.ins c fs) => if att c f then (match getFD f fs with | some d => .ok d O1 | none => .bad) else .bad
    | _ => .bad)
  | _ => .bad
theorem d_fld (f : Nat) {x : Str} (hK : X.K = C.K) (Fa : Facts C) (hf : f < C.fN) (hx : C.fn f = x) (ho : DE C X W o fo) (hb : attributeBase o x X.env (eval o X.env) = eval o X.env := by rfl) : DE C X W (.Attribute o x pos) (fldE C.att f fo) :=
  let ⟨_, po, so⟩ := ho.ex
  ⟨_, pe_fld po hb, fun g σ H r O R S Q h => so.seq R S h fun d O1 v g1 H1 e1 R1 S1 s1 h1 => by
    split at h1
    · rename_i l
      simp only [Rel.sh, Shr] at s1
      obtain ⟨rfl, hl⟩ := s1
      split at h1
      · rename_i c fs ec
        split at h1
        · rename_i hatt
          split at h1
          · rename_i d' ed
            obtain ⟨A, dx, vs, h2, h3, h4⟩ := R1.cell l _ ec
            obtain ⟨w, h5, h6⟩ := shrF_get hf h4 ed
            rw [hK]
            exact ⟨_, A, dx, vs, w, rfl, h3, Fa.cls c A h2, hx ▸ Fa.noa c A f h2 hatt, hx ▸ h5, Post.fin R1 h6 h1⟩
          · exact h1.elim
        · exact h1.elim
      · exact h1.elim
    · exact h1.elim⟩
def fldS (att : Nat → Nat → Bool) (f : Nat) (fo fv : DE0) : DS0 := fun r O => (fv r O).bindS r fun d O1 => (fo r O1).bindS r fun o O2 => match o with
  | .ob l => (match O2[l]? with
    | some (.ins c fs) => if att c f && decide (fs.length < 1000) then .nx r (O2.set l (.ins c (putFD f d fs))) else .bad
    | _ => .bad)
  | _ => .bad
theorem s_fld (f : Nat) {x : Str} (hK : X.K = C.K) (Fa : Facts C) (hf : f < C.fN) (hx : C.fn f = x) (ho : DE C X W o fo) (hv : DE C X W value fv) (hs : swapsWith value (some (.Attribute o x pos')) pos.line X.env = pure false := by rfl) :
    DS C X W (.Assign [.Attribute o x pos'] value pos) (fldS C.att f fo fv) :=
  let ⟨_, po, so⟩ := ho.ex; let ⟨_, pv, sv⟩ := hv.ex
  ⟨_, ps_fld po pv hs, fun g σ H r O R S E h => sv.seqS R S h fun d O1 v g1 H1 e1 R1 S1 s1 h1 => so.seqS R1 S1 h1 fun o' O2 w g2 H2 e2 R2 S2 s2 h2 => by
    split at h2
    · rename_i l
      simp only [Rel.sh, Shr] at s2
      obtain ⟨rfl, hl⟩ := s2
      split at h2
      · rename_i c fs ec
        split at h2
        · rename_i hatt
          simp only [Bool.and_eq_true, decide_eq_true_eq] at hatt
          obtain ⟨A, dx, vs, h3, h4, h5⟩ := R2.cell l _ ec
          rw [hK]
          refine ⟨_, A, dx, vs, rfl, h4, Fa.cls c A h3, hx ▸ Fa.noa c A f h3 hatt.1, by rw [shrF_len h5]; exact hatt.2, ?_⟩
          refine h2 σ g2 _ (Ext.set R2 hl) (R2.set hl ⟨A, dx, _, h3, upd_same, ?_⟩) S2
          rw [← hx]
          exact shrF_put hf (s1.mono e2.le) h5
        · exact h2.elim
      · exact h2.elim
    · exact h2.elim⟩
structure GM (P : Program) (w : World) (K : PySem.W.Frag) (mg : Str → Option Value) (base : Heap) (C : Ctx) (c : Nat) (m : Str) (k np : Nat) (fn : Fn) : Prop where
  ex : ∃ A f fd ps, C.cl c = some A ∧ Meth K A m f ∧ ps.length = np ∧ FnOk P w K mg base (L2.CX P w) k f fd ps (spD C np fn) ∧ Binds K fd ps []
def methE (c np : Nat) (fn : Fn) (fo : DE0) (fas : Rho → Sto → Res (List D)) : DE0 := fun r O => (fo r O).bind fun d O1 => match d with
  | .ob l => (match O1[l]? with
    | some (.ins c' _) => if c' = c then (fas r O1).bind fun ds O2 => if ds.length + 1 = np then fn (.ob l :: ds) O2 else .bad else .bad
    | _ => .bad)
  | _ => .bad
def tMethS (A : Addr) (m : Str) (sp : Sp) (E : L2.St → XK) (ta : TE) (t : TA) : TE := fun σ H Q => ta σ H fun x H1 => ∃ a dx fs, x = .ref a ∧ H1 a = some (.ins A dx fs) ∧ fs.lookup m = none ∧ t σ H1 fun vs H2 => sp (x :: vs) H2 Q (E σ)
variable {m : Str} {apos : Pos} {k np c : Nat} {fn : Fn}
theorem pe_methS {CX : CXT} {f A : Addr} {fd : FuncData} {ps : List Str} {sp : Sp} {E : L2.St → XK} {ta : TE} {t : TA} {pl : Sem Bool} (he : PE X o ta) (c : Cls X.K A) (hm : Meth X.K A m f)
    (F : FnOk X.prog X.w X.K X.mg X.base CX k f fd ps sp) (hr : Room k X.A) (hb : Binds X.K fd ps []) (hx : ∀ σ, PassesAt CX X σ (E σ)) (ha : PA X (e :: es) t)
    (hst : starEach (e :: es) X.env = (false, eval e X.env) :: starEach es X.env) (hpl : (backTo pos (starEach es X.env)).any (·.1) = false)
    (ht : eval (.Call (.Attribute o m apos) (e :: es) [] pos) X.env = (do
      let ov ← eval o X.env
      standAt apos.atName
      let (f, first) ← holding [ov] (getMethod ov m pl)
      callWith pos f first (backTo pos (starEach (e :: es) X.env)) (backToKw pos (keywordEach [] X.env)))) :
    PE X (.Call (.Attribute o m apos) (e :: es) [] pos) (tMethS A m sp E ta t) := by
  refine ⟨fun pins s σ H Q I h => ?_⟩
  refine PySem.W.methodCall_KW (pl := pl) (thn (he.run pins s σ H _ I h) fun u s1 ⟨x, H1, I1, rx, a, dx, fs, ex, ea, l, q⟩ => ?_) ht
  subst ex
  obtain rfl : u = Value.ref a := rx
  refine getmeth_ok I1 ea c hm l ?_
  refine PySem.W.callWith_K (first := [.ref a]) (h₀ := X.base) I.ok.mod.kin hm.kp (thn (ha.run pos pins s1 σ H1 _ I1 q) fun us s2 ⟨vs, H2, I2, r, q2⟩ => ⟨I2.kIn, ?_⟩) hst hpl
  exact run_fnS (us := .ref a :: us) (vs := .ref a :: vs) F hr hb (hx σ) I2 (.cons rfl r) q2
theorem pe_methS0 {CX : CXT} {f A : Addr} {fd : FuncData} {ps : List Str} {sp : Sp} {E : L2.St → XK} {ta : TE} {pl : Sem Bool} (he : PE X o ta) (c : Cls X.K A) (hm : Meth X.K A m f)
    (F : FnOk X.prog X.w X.K X.mg X.base CX k f fd ps sp) (hr : Room k X.A) (hb : Binds X.K fd ps []) (hx : ∀ σ, PassesAt CX X σ (E σ))
    (ht : eval (.Call (.Attribute o m apos) [] [] pos) X.env = (do
      let ov ← eval o X.env
      standAt apos.atName
      let (f, first) ← holding [ov] (getMethod ov m pl)
      callWith pos f first (backTo pos (starEach [] X.env)) (backToKw pos (keywordEach [] X.env)))) :
    PE X (.Call (.Attribute o m apos) [] [] pos) (tMethS A m sp E ta tNil) := by
  refine ⟨fun pins s σ H Q I h => ?_⟩
  refine PySem.W.methodCall_KW (pl := pl) (thn (he.run pins s σ H _ I h) fun u s1 ⟨x, H1, I1, rx, a, dx, fs, ex, ea, l, q⟩ => ?_) ht
  subst ex
  obtain rfl : u = Value.ref a := rx
  refine getmeth_ok I1 ea c hm l ?_
  exact PySem.W.callWith_K0 (first := [.ref a]) I1.kIn hm.kp (run_fnS (us := [.ref a]) (vs := [.ref a]) F hr hb (hx σ) I1 (.cons rfl .nil) q)
theorem sat_meth {A : Addr} {ta : TE} {t : TA} (hA : C.cl c = some A) (hno : ∀ i, i < C.fN → C.fn i ≠ m) (so : Sat C W ta fo) (sa : Sat C W t fas) :
    Sat C W (tMethS A m (spD C np fn) (WE W) ta t) (methE c np fn fo fas) := fun g σ H r O R S Q h => so.seq R S h fun d O1 v g1 H1 e1 R1 S1 s1 h1 => by
  split at h1
  · rename_i l
    have s1' := s1
    simp only [Rel.sh, Shr] at s1
    obtain ⟨rfl, hl⟩ := s1
    split at h1
    · rename_i c' fs ec
      split at h1
      · rename_i hc
        subst hc
        obtain ⟨A', dx, vs, h3, h4, h5⟩ := R1.cell l _ ec
        rw [hA] at h3
        cases h3
        refine ⟨_, dx, vs, rfl, h4, shrF_none hno h5, ?_⟩
        exact sa.seq R1 S1 h1 fun ds O2 ws g2 H2 e2 R2 S2 s2 h2 => by
          split at h2
          · rename_i hn
            refine ⟨g2, O2, .ob l :: ds, by simpa using hn, R2, ?_, post_W h2⟩
            simp only [ShrL]
            exact ⟨_, ws, rfl, s1'.mono e2.le, s2⟩
          · exact h2.elim
      · exact h1.elim
    · exact h1.elim
  · exact h1.elim
theorem d_meth (c : Nat) {pl : Sem Bool} (hK : X.K = C.K) (Fa : Facts C) (G1 : GM X.prog X.w X.K X.mg X.base C c m k np fn) (hr : Room k X.A) (tk : Takes X W) (hno : ∀ i, i < C.fN → C.fn i ≠ m) (ho : DE C X W o fo) (ha : DA C X W (e :: es) fas)
    (hst : starEach (e :: es) X.env = (false, eval e X.env) :: starEach es X.env := by rfl) (hpl : (backTo pos (starEach es X.env)).any (·.1) = false := by rfl)
    (ht : eval (.Call (.Attribute o m apos) (e :: es) [] pos) X.env = (do
      let ov ← eval o X.env
      standAt apos.atName
      let (f, first) ← holding [ov] (getMethod ov m pl)
      callWith pos f first (backTo pos (starEach (e :: es) X.env)) (backToKw pos (keywordEach [] X.env))) := by rfl) :
    DE C X W (.Call (.Attribute o m apos) (e :: es) [] pos) (methE c np fn fo fas) := by
  obtain ⟨A, f, fd, ps, h1, h2, h3, h4, h5⟩ := G1.ex
  obtain ⟨_, po, so⟩ := ho.ex
  obtain ⟨_, pa, sa⟩ := ha.ex
  exact ⟨_, pe_methS po (by rw [hK]; exact Fa.cls c A h1) h2 h4 hr h5 (fun σ => passAt tk σ) pa hst hpl ht, sat_meth h1 hno so sa⟩
theorem d_meth0 (c : Nat) {pl : Sem Bool} (hK : X.K = C.K) (Fa : Facts C) (G1 : GM X.prog X.w X.K X.mg X.base C c m k np fn) (hr : Room k X.A) (tk : Takes X W) (hno : ∀ i, i < C.fN → C.fn i ≠ m) (ho : DE C X W o fo)
    (ht : eval (.Call (.Attribute o m apos) [] [] pos) X.env = (do
      let ov ← eval o X.env
      standAt apos.atName
      let (f, first) ← holding [ov] (getMethod ov m pl)
      callWith pos f first (backTo pos (starEach [] X.env)) (backToKw pos (keywordEach [] X.env))) := by rfl) :
    DE C X W (.Call (.Attribute o m apos) [] [] pos) (methE c np fn fo nilA) := by
  obtain ⟨A, f, fd, ps, h1, h2, h3, h4, h5⟩ := G1.ex
  obtain ⟨_, po, so⟩ := ho.ex
  exact ⟨_, pe_methS0 po (by rw [hK]; exact Fa.cls c A h1) h2 h4 hr h5 (fun σ => passAt tk σ) ht, sat_meth h1 hno so sat_nil⟩
end
end Dn
set_option Elab.async false
set_option linter.all false
set_option maxRecDepth 100000
set_option maxHeartbeats 2000000
namespace Dn
open PySem PySem.Spec PyProof.Rows L2
section
variable {C : Ctx} {X : Cx} {W : WX}
variable {x : Str} {p pos pos' : Pos} {e a b : Expr} {es : List Expr} {fas : Rho → Sto → Res (List D)} {fe fo fa fb : DE0} {k np c : Nat} {fn : Fn}
def tMakeS (A : Addr) (sp : Sp) (E : L2.St → XK) (t : TA) : TE := fun σ H Q => t σ H fun vs H1 => ∀ x dx, H1 x = none → H1 dx = none → dx ≠ x →
  sp (.ref x :: vs) (upd (upd H1 dx (.own x)) x (.ins A dx [])) (fun v H2 => v = .non ∧ Q (.ref x) H2) (E σ)
theorem make_run {CX : CXT} {f A : Addr} {fd : FuncData} {ps : List Str} {sp : Sp} {E : XK} {pins : List (Addr × Obj)} {σ : L2.St} {H : Hp} {s : Shared} {Q : VK} {us : List Value} {vs : List V} (M : Mk X.K A f)
    (F : FnOk X.prog X.w X.K X.mg X.base CX k f fd ps sp) (hr : Room (k + 1) X.A) (hb : Binds X.K fd ps []) (hx : PassesAt CX X σ E) (I : Inv X pins σ H s) (r : Vals vs us)
    (h : ∀ x dx, H x = none → H dx = none → dx ≠ x → sp (.ref x :: vs) (upd (upd H dx (.own x)) x (.ins A dx [])) (fun v H2 => v = .non ∧ Q (.ref x) H2) E) :
    wpAny (model X.prog X.w) X.A (call (.ref A) us) (EP X pins σ Q) X.xe s := by
  generalize hn : s.heap.objs.size = n at *
  have hq := h (n + 1) n (I.hok.fresh (by rw [hn]; exact Nat.le_succ _)) (I.hok.fresh (by rw [hn]; exact Nat.le_refl _)) (Nat.ne_of_lt (Nat.lt_succ_self n))
  have J := Inv.made (C := A) I
  rw [hn] at J
  have rr : Vals (V.ref (n + 1) :: vs) (Value.ref (n + 1) :: us) := .cons rfl r
  have hlen : (Value.ref (n + 1) :: us).length = ps.length := rr.length.symm.trans (F.len _ _ _ _ hq)
  have bb := hb _ (Value.ref (n + 1) :: us) J.kIn (by rw [List.append_nil]; exact hlen)
  rw [List.append_nil] at bb
  have go := F.run _ X.stack _ _ ⟨Value.ref (n + 1) :: us, []⟩ _ _ _ E (hr.make A us []) (J.env0.make A us []) bb rr hq
  subst hn
  refine wpAny_call (make_map I.kIn M.makes M.init (beq_iff_eq.mp M.fn) (codeAny_mono go fun res s' out => ?_))
  match res, out with
  | .error er, out => exact hx pins _ _ er s' J out
  | .ok (.ret u), out =>
    obtain ⟨v, H', I3, rv, ev, q3⟩ := J.after out
    subst ev
    exact ⟨rv, V.ref (s.heap.objs.size + 1), H', I3, rfl, q3⟩
theorem pe_makeS {CX : CXT} {f A : Addr} {fd : FuncData} {ps : List Str} {sp : Sp} {E : L2.St → XK} {t : TA} (M : Mk X.K A f) (F : FnOk X.prog X.w X.K X.mg X.base CX k f fd ps sp) (hr : Room (k + 1) X.A) (hg : Gl X x) (hm : X.mg x = some (.ref A)) (hb : Binds X.K fd ps []) (hx : ∀ σ, PassesAt CX X σ (E σ))
    (ha : PA X (e :: es) t) (hdb : (x == ("__debug__" : Str)) = false) (he : starEach (e :: es) X.env = (false, eval e X.env) :: starEach es X.env) (hpl : (backTo pos (starEach es X.env)).any (·.1) = false) :
    PE X (.Call (.Name x p) (e :: es) [] pos) (tMakeS A sp E t) :=
  ⟨fun pins s σ H Q I h => wpAny_Call_Name_kw (ld_glob I hg hm (PySem.W.callWith_K (h₀ := X.base) I.ok.mod.kin M.kp (thn (ha.run pos pins s σ H _ I h) fun us s1 ⟨vs, H1, I1, r, q⟩ => ⟨I1.kIn, make_run M F hr hb (hx σ) I1 r q⟩) he hpl) hdb)⟩
theorem pe_makeS0 {CX : CXT} {f A : Addr} {fd : FuncData} {ps : List Str} {sp : Sp} {E : L2.St → XK} (M : Mk X.K A f) (F : FnOk X.prog X.w X.K X.mg X.base CX k f fd ps sp) (hr : Room (k + 1) X.A) (hg : Gl X x) (hm : X.mg x = some (.ref A)) (hb : Binds X.K fd ps []) (hx : ∀ σ, PassesAt CX X σ (E σ))
    (hdb : (x == ("__debug__" : Str)) = false) : PE X (.Call (.Name x p) [] [] pos) (tMakeS A sp E tNil) :=
  ⟨fun pins s σ H Q I h => wpAny_Call_Name_kw (ld_glob I hg hm (PySem.W.callWith_K0 I.kIn M.kp (make_run (us := []) M F hr hb (hx σ) I .nil h)) hdb)⟩
/-- a class of the text with its __init__ -/
structure GK (P : Program) (w : World) (K : PySem.W.Frag) (mg : Str → Option Value) (base : Heap) (C : Ctx) (x : Str) (c k np : Nat) (fn : Fn) : Prop where
  ex : ∃ A f fd ps, C.cl c = some A ∧ mg x = some (.ref A) ∧ Mk K A f ∧ ps.length = np ∧ FnOk P w K mg base (L2.CX P w) k f fd ps (spD C np fn) ∧ Binds K fd ps []
def asNon (l : Nat) (d : D) (O : Sto) : ER := match d with | .non => .ok (.ob l) O | _ => .bad
def makeE (c np : Nat) (fn : Fn) (fas : Rho → Sto → Res (List D)) : DE0 := fun r O => (fas r O).bind fun ds O1 => if ds.length + 1 = np then (fn (.ob O1.length :: ds) (O1 ++ [.ins c []])).bind (asNon O1.length) else .bad
theorem sat_make {A : Addr} {t : TA} (hA : C.cl c = some A) (sa : Sat C W t fas) : Sat C W (tMakeS A (spD C np fn) (WE W) t) (makeE c np fn fas) := fun g σ H r O R S Q h => sa.seq R S h fun ds O1 vs g1 H1 e1 R1 S1 s1 h1 => by
  intro x dx nx nd ne
  split at h1
  · rename_i hn
    have k1 : ∀ a o, H1 a = some o → upd (upd H1 dx (.own x)) x (.ins A dx []) a = some o := fun a o q => by
      rw [upd_ne (ne_of_none q nx), upd_ne (ne_of_none q nd)]; exact q
    have R2 := R1.add (c := .ins c []) nx k1 ⟨A, dx, [], hA, upd_same, rfl⟩
    have e2 := Ext.add (H' := upd (upd H1 dx (.own x)) x (.ins A dx [])) R1 nx k1
    have hl : (g1.add x).θ O1.length = x := by rw [← R1.n]; exact G.add_at
    have hl2 : O1.length < (g1.add x).n := by show O1.length < g1.n + 1; have := R1.n; omega
    refine ⟨g1.add x, _, .ob O1.length :: ds, by simpa using hn, R2, ?_, ?_⟩
    · simp only [ShrL, Shr]
      exact ⟨_, vs, by rw [hl], ⟨rfl, hl2⟩, ShrL.mono GLe.add _ _ s1⟩
    · have h2 := post_W (Post.shift e2 h1)
      cases z : fn (.ob O1.length :: ds) (O1 ++ [.ins c []]) with
      | bad => rw [z] at h2; exact h2.elim
      | exc er O3 => rw [z] at h2; exact h2
      | ok d O3 =>
        rw [z] at h2
        intro v g3 H3 e3 R3 s3
        cases d with
        | non =>
          refine ⟨s3, ?_⟩
          refine h2 (.ref x) g3 H3 e3 R3 ?_
          show Shr _ _ (.ob _) _
          simp only [Shr]
          rw [e3.le.θ _ hl2, hl]
          exact ⟨rfl, Nat.lt_of_lt_of_le hl2 e3.le.n⟩
        | _ => exact h2.elim
  · exact h1.elim
theorem d_make (G1 : GK X.prog X.w X.K X.mg X.base C x c k np fn) (hr : Room (k + 1) X.A) (tk : Takes X W) (hg : Gl X x) (ha : DA C X W (e :: es) fas)
    (hdb : (x == ("__debug__" : Str)) = false := by decide) (he : starEach (e :: es) X.env = (false, eval e X.env) :: starEach es X.env := by rfl) (hpl : (backTo pos (starEach es X.env)).any (·.1) = false := by rfl) :
    DE C X W (.Call (.Name x p) (e :: es) [] pos) (makeE c np fn fas) := by
  obtain ⟨A, f, fd, ps, h1, h2, h3, h4, h5, h6⟩ := G1.ex
  obtain ⟨_, pa, sa⟩ := ha.ex
  exact ⟨_, pe_makeS h3 h5 hr hg h2 h6 (fun σ => passAt tk σ) pa hdb he hpl, sat_make h1 sa⟩
theorem d_make0 (G1 : GK X.prog X.w X.K X.mg X.base C x c k np fn) (hr : Room (k + 1) X.A) (tk : Takes X W) (hg : Gl X x) (hdb : (x == ("__debug__" : Str)) = false := by decide) :
    DE C X W (.Call (.Name x p) [] [] pos) (makeE c np fn nilA) := by
  obtain ⟨A, f, fd, ps, h1, h2, h3, h4, h5, h6⟩ := G1.ex
  exact ⟨_, pe_makeS0 h3 h5 hr hg h2 h6 (fun σ => passAt tk σ) hdb, sat_make h1 sat_nil⟩
/-- a value's type: 0 None, 1 bool, 2 int, 3 str, 4 tuple, 5 list, 6 dict -/
def tyD (d : D) (O : Sto) : Option Nat := match d with
  | .non => some 0 | .bl _ => some 1 | .int _ => some 2 | .str _ => some 3 | .tup _ => some 4 | .lst _ => some 5 | .scr _ => some 5
  | .ob l => match O[l]? with | some (.lst _) => some 5 | some (.dic _) => some 6 | _ => none
def tyName : Nat → String
  | 0 => "NoneType" | 1 => "bool" | 2 => "int" | 3 => "str" | 4 => "tuple" | 5 => "list" | _ => "dict"
def isTy (t T : Nat) : Bool := t == T || (t == 1 && T == 2)
def isiD (T : Nat) : O1 := fun d O => match tyD d O with | some t => .ok (.bl (isTy t T)) O | none => .bad
theorem rd_tup {K : PySem.W.Frag} {H : Hp} {a : Addr} {vs : List V} (h : SqT K H a vs) : TyX K H (.ref a) (.type "tuple") := by
  rcases h with (h | ⟨o, h⟩) | ⟨o, its, n, h1, h2, _⟩
  · exact .base (.tup h)
  · exact .fTuple h
  · exact .kTuple h1 h2
theorem rd_lst {K : PySem.W.Frag} {H : Hp} {a : Addr} {vs : List V} (h : SqL K H a vs) : TyX K H (.ref a) (.type "list") := by
  rcases h with (h | ⟨o, h⟩) | ⟨o, its, n, h1, h2, _⟩
  · exact .base (.lst h)
  · exact .base (.frz h)
  · exact .kList h1 h2
theorem tyX_of {g : G} {H : Hp} {O : Sto} (R : RepO C g H O) {d : D} {v : V} (s : Shr C.K g d v) {t : Nat} (h : tyD d O = some t) : TyX C.K H v (.type (tyName t)) := by
  cases d with
  | non => cases h; cases s; exact .base .non
  | bl b => cases h; cases s; exact .base (.bl b)
  | int i => cases h; cases s; exact .base (.int i)
  | str x => cases h; cases s; exact .base (.str _)
  | tup ds =>
    cases h
    simp only [Shr] at s
    obtain ⟨a, vs, rfl, h2, _⟩ := s
    exact rd_tup (ex_t R.F h2)
  | lst ds =>
    cases h
    simp only [Shr] at s
    obtain ⟨a, vs, rfl, h2, _⟩ := s
    exact .base (.lst (R.F _ _ h2))
  | scr ds =>
    cases h
    simp only [Shr] at s
    obtain ⟨a, vs, rfl, h2, _⟩ := s
    exact rd_lst (ex_l R.F h2)
  | ob l =>
    simp only [Shr] at s
    obtain ⟨rfl, _⟩ := s
    unfold tyD at h
    simp only at h
    split at h
    · rename_i e
      cases h
      obtain ⟨vs, h1, _⟩ := R.cell l _ e
      exact .base (.lst h1)
    · rename_i e
      cases h
      obtain ⟨vs, h1, _⟩ := R.cell l _ e
      exact .base (.dK h1)
    · cases h
def kits : Bool := (List.range 7).all fun t => (List.range 7).all fun T => kitB (tyName t) (tyName T) == some (isTy t T)
theorem kits_ok : kits = true := by decide +kernel
theorem kit_at {t T : Nat} (h1 : t < 7) (h2 : T < 7) : kitB (tyName t) (tyName T) = some (isTy t T) := by
  have h := List.all_eq_true.mp (List.all_eq_true.mp kits_ok t (List.mem_range.mpr h1)) T (List.mem_range.mpr h2)
  exact eq_of_beq h
theorem tyD_lt {d : D} {O : Sto} {t : Nat} (h : tyD d O = some t) : t < 7 := by
  unfold tyD at h
  split at h <;> (try split at h) <;> cases h <;> decide
theorem d_isi (T : Nat) {n : Str} {pT : Pos} (hK : X.K = C.K) (hT : T < 7) (hg : Gl X "isinstance") (hm : X.mg "isinstance" = none) (he : DE C X W e fe) (hgT : Gl X n) (hmT : X.mg n = none) (hv : bootBuiltins n = some (.type (tyName T))) (hnn : n ≠ "__name__" := by decide) (hnd : (n == ("__debug__" : Str)) = false := by decide)
    (hs1 : starEach [.Name n pT] X.env = (false, eval (.Name n pT) X.env) :: starEach [] X.env := by rfl)
    (hs : starEach [e, .Name n pT] X.env = (false, eval e X.env) :: starEach [.Name n pT] X.env := by rfl) (hpl : (backTo pos (starEach [.Name n pT] X.env)).any (·.1) = false := by rfl) :
    DE C X W (.Call (.Name "isinstance" p) [e, .Name n pT] [] pos) (op1 (isiD T) fe) := by
  obtain ⟨te, pe, se⟩ := he.ex
  refine ⟨_, pe_callB call_isi hg hm (by decide +kernel) (pa_cons pe (pa_cons (pe_bltn (v := .ty (tyName T)) hgT hmT hv rfl hnn hnd) pa_nil hs1) hs) (by decide) (by decide) hs hpl, fun g σ H r O R S Q h => ?_⟩
  refine se.seq R S h fun d O1 v g1 H1 e1 R1 S1 s1 h1 => ?_
  unfold isiD at h1
  split at h1
  · rename_i t et
    refine ⟨v, .ty (tyName T), _, _, _, rfl, .ty _, hK ▸ tyX_of R1 s1 et, kit_ty (kit_at (tyD_lt et) hT), Post.fin R1 rfl h1⟩
  · exact h1.elim
def tupleF : List D → Sto → ER := fun ds O => match ds with
  | [.tup xs] => .ok (.tup xs) O
  | [d] => (match listR d O with | some xs => .ok (.tup xs) O | none => .bad)
  | _ => .bad
theorem s_tuple : SatC C W (fun xs H Q => ∃ p ys, xs = [.ref p] ∧ ((SqL C.K H p ys ∧ ∀ l, H l = none → Q (.ref l) (upd H l (.tup ys))) ∨ (SqT C.K H p ys ∧ Q (.ref p) H))) tupleF := by
  intro g H O R ds vs s σ Q h
  unfold tupleF at h
  split at h
  · rename_i xs
    obtain ⟨v, rfl, sv⟩ := shrL_one s
    have sv' := sv
    simp only [Shr] at sv
    obtain ⟨a, ws, rfl, h2, h3⟩ := sv
    exact ⟨a, ws, rfl, .inr ⟨ex_t R.F h2, Post.fin R sv' h⟩⟩
  · rename_i d _
    obtain ⟨v, rfl, sv⟩ := shrL_one s
    split at h
    · rename_i xs ex
      obtain ⟨a, ws, rfl, h2, h3⟩ := listR_of R sv ex
      exact ⟨a, ws, rfl, .inl ⟨h2, fun l hl => new_tup R h3 h hl⟩⟩
    · exact h.elim
  · exact h.elim
def listF (m : Bool) : List D → Sto → ER := fun ds O => match ds with
  | [d] => (match seqR d O with | some xs => mkL m xs O | none => .bad)
  | _ => .bad
def blD (d : D) : Option Bool := match d with | .bl b => some b | _ => none
def bls : List D → Option (List Bool)
  | [] => some []
  | d :: ds => match blD d, bls ds with | some b, some bs => some (b :: bs) | _, _ => none
theorem bls_of {K : PySem.W.Frag} {g : G} : ∀ {ds : List D} {vs : List V} {bs : List Bool}, ShrL K g ds vs → bls ds = some bs → vs = bs.map V.bl
  | [], vs, bs, h, e => by simp only [ShrL] at h; subst h; simp [bls] at e; subst e; rfl
  | d :: ds, vs, bs, h, e => by
    simp only [ShrL] at h
    obtain ⟨v, r, rfl, h2, h3⟩ := h
    unfold bls at e
    split at e
    · rename_i b bs' e1 e2
      cases e
      unfold blD at e1
      split at e1
      · cases e1
        cases h2
        rw [bls_of h3 e2]; rfl
      · cases e1
    · cases e
def allF : List D → Sto → ER := fun ds O => match ds with
  | [d] => (match listR d O with | some xs => (match bls xs with | some bs => .ok (.bl (bs.all id)) O | none => .bad) | none => .bad)
  | _ => .bad
def anyF : List D → Sto → ER := fun ds O => match ds with
  | [d] => (match listR d O with | some xs => (match bls xs with | some bs => .ok (.bl (bs.any id)) O | none => .bad) | none => .bad)
  | _ => .bad
theorem s_all : SatC C W (rAll C.K) allF := by
  intro g H O R ds vs s σ Q h
  unfold allF at h
  split at h
  · rename_i d
    obtain ⟨v, rfl, sv⟩ := shrL_one s
    split at h
    · rename_i xs ex
      split at h
      · rename_i bs eb
        obtain ⟨a, ws, rfl, h2, h3⟩ := listR_of R sv ex
        have := bls_of h3 eb
        subst this
        exact ⟨a, bs, rfl, h2, Post.fin R rfl h⟩
      · exact h.elim
    · exact h.elim
  · exact h.elim
theorem s_any : SatC C W (rAny C.K) anyF := by
  intro g H O R ds vs s σ Q h
  unfold anyF at h
  split at h
  · rename_i d
    obtain ⟨v, rfl, sv⟩ := shrL_one s
    split at h
    · rename_i xs ex
      split at h
      · rename_i bs eb
        obtain ⟨a, ws, rfl, h2, h3⟩ := listR_of R sv ex
        have := bls_of h3 eb
        subst this
        exact ⟨a, bs, rfl, h2, Post.fin R rfl h⟩
      · exact h.elim
    · exact h.elim
  · exact h.elim
end
end Dn
set_option Elab.async false
set_option linter.all false
set_option maxRecDepth 100000
set_option maxHeartbeats 2000000
namespace Dn
open PySem PySem.Spec PyProof.Rows L2
section
variable {C : Ctx} {X : Cx} {W : WX}
variable {x : Str} {p pos pos' apos : Pos} {e o a b c : Expr} {es : List Expr} {fas : Rho → Sto → Res (List D)} {fe fo fa fb fc : DE0}
theorem e_add (m : Bool) (hK : X.K = C.K) (ha : DE C X W a fa) (hb : DE C X W b fb) : DE C X W (.BinOp a .Add b pos) (op2 (addD m) fa fb) := d_op (op_addD (X := X)) (by rw [hK]; exact s_add m) ha hb
theorem e_sub (ha : DE C X W a fa) (hb : DE C X W b fb) : DE C X W (.BinOp a .Sub b pos) (op2 subD fa fb) := d_op op_sub s_sub ha hb
theorem e_mod (ha : DE C X W a fa) (hb : DE C X W b fb) : DE C X W (.BinOp a .Mod b pos) (op2 modD fa fb) := d_op op_mod s_mod ha hb
theorem e_fdiv (ha : DE C X W a fa) (hb : DE C X W b fb) : DE C X W (.BinOp a .FloorDiv b pos) (op2 fdivD fa fb) := d_op op_fdiv s_fdiv ha hb
theorem e_neg (ha : DE C X W a fa) : DE C X W (.UnaryOp .USub a pos) (op1 negD fa) := d_un un_neg s_neg ha
/-- * -/
def mulOk (i j : Int) : Bool := (decide (-18446744073709551616 < i) && decide (i < 18446744073709551616)) || (decide (-18446744073709551616 < j) && decide (j < 18446744073709551616))
def mulD (m : Bool) : O2 := fun a b O => match a, b with
  | .int i, .int j => if mulOk i j then .ok (.int (i * j)) O else .bad
  | .tup xs, .int k => if decide (xs ≠ []) && decide (2 ≤ k) && decide (k ≤ 1000) && decide (xs.length ≤ 1000) then .ok (.tup (List.replicate k.toNat xs).flatten) O else .bad
  | a, .int k => (match listS a O with
    | some xs => if decide (-9223372036854775808 ≤ k) && decide (k < 9223372036854775808) && decide (xs.length * k.toNat ≤ sizeLine) then mkL m (List.replicate k.toNat xs).flatten O else .bad
    | none => .bad)
  | _, _ => .bad
theorem shrL_rep {K : PySem.W.Frag} {g : G} {ds : List D} {vs : List V} (h : ShrL K g ds vs) : ∀ k : Nat, ShrL K g (List.replicate k ds).flatten (List.replicate k vs).flatten
  | 0 => by simp [ShrL]
  | k + 1 => by
    rw [List.replicate_succ, List.replicate_succ, List.flatten_cons, List.flatten_cons]
    exact shrL_append h (shrL_rep h k)
def rMulA (K : PySem.W.Frag) : R2 := fun x y H Q => rI CMul (fun i j => .int (i * j)) x y H Q ∨ rRepT K x y H Q ∨ rRep x y H Q
theorem op_mulA : OpR X (binaryOp .Mult) (rMulA X.K) := op_mul.or (op_repT.or op_rep)
theorem s_mul (m : Bool) : Sat2 C W (rMulA C.K) (mulD m) := by
  intro g H O R a b x y sx sy σ Q h
  unfold mulD at h
  split at h
  · cases sx; cases sy
    split at h
    · rename_i hm
      refine .inl ⟨_, _, rfl, rfl, ?_, Post.fin R rfl h⟩
      simp only [mulOk, Bool.or_eq_true, Bool.and_eq_true, decide_eq_true_eq] at hm
      rcases hm with hm | hm
      · exact .inl ⟨by omega, by omega⟩
      · exact .inr ⟨by omega, by omega⟩
    · exact h.elim
  · rename_i xs k
    cases sy
    simp only [Shr] at sx
    obtain ⟨a, vs, rfl, a2, a3⟩ := sx
    split at h
    · rename_i hc
      simp only [Bool.and_eq_true, decide_eq_true_eq] at hc
      have hl := shrL_len a3
      refine .inr (.inl ⟨a, k, vs, rfl, rfl, ex_t R.F a2, fun z => hc.1.1.1 ?_, hc.1.1.2, hc.1.2, by omega, fun p hp => new_tup R (shrL_rep a3 _) h hp⟩)
      subst z
      exact List.eq_nil_of_length_eq_zero (by simpa using hl.symm)
    · exact h.elim
  · rename_i d k _ _
    cases sy
    split at h
    · rename_i xs ex
      obtain ⟨a, vs, rfl, a2, a3⟩ := listS_of R sx ex
      split at h
      · rename_i hc
        simp only [Bool.and_eq_true, decide_eq_true_eq] at hc
        have hl := shrL_len a3
        exact .inr (.inr ⟨a, k, vs, rfl, rfl, a2, by omega, by omega, by rw [hl]; exact hc.2, fun p hp => new_lst R (shrL_rep a3 _) h hp⟩)
      · exact h.elim
    · exact h.elim
  · exact h.elim
theorem e_mul (m : Bool) (hK : X.K = C.K) (ha : DE C X W a fa) (hb : DE C X W b fb) : DE C X W (.BinOp a .Mult b pos) (op2 (mulD m) fa fb) := d_op (op_mulA (X := X)) (by rw [hK]; exact s_mul m) ha hb
theorem e_eq (hK : X.K = C.K) (hu : X.A.units + 64 < cLine) (ha : DE C X W a fa) (hb : DE C X W b fb) : DE C X W (.Compare a [.Eq] [b] pos) (op2 eqD fa fb) := d_cmp (op_eqA hu) (by rw [hK]; exact s_eq) ha hb
theorem e_ne (hK : X.K = C.K) (hu : X.A.units + 64 < cLine) (ha : DE C X W a fa) (hb : DE C X W b fb) : DE C X W (.Compare a [.NotEq] [b] pos) (op2 neD fa fb) := d_cmp (op_neA hu) (by rw [hK]; exact s_ne) ha hb
theorem e_le (ha : DE C X W a fa) (hb : DE C X W b fb) : DE C X W (.Compare a [.LtE] [b] pos) (op2 leD fa fb) := d_cmp op_le s_le ha hb
theorem e_ge (ha : DE C X W a fa) (hb : DE C X W b fb) : DE C X W (.Compare a [.GtE] [b] pos) (op2 geD fa fb) := d_cmp op_ge s_ge ha hb
theorem e_in (hK : X.K = C.K) (hu : X.A.units + 64 < cLine) (ha : DE C X W a fa) (hb : DE C X W b fb) (hm : behindInMarks .In b = false := by rfl) : DE C X W (.Compare a [.In] [b] pos) (op2 (inB false) fa fb) := d_cmp (op_inA (by omega)) (by rw [hK]; exact s_in false) ha hb hm
theorem t_eq (hK : X.K = C.K) (hu : X.A.units + 64 < cLine) (ha : DE C X W a fa) (hb : DE C X W b fb) : DT C X W (.Compare a [.Eq] [b] pos) (cmpT eqD fa fb) := t_cmp (op_eqA hu) (by rw [hK]; exact s_eq) ha hb
theorem t_ne (hK : X.K = C.K) (hu : X.A.units + 64 < cLine) (ha : DE C X W a fa) (hb : DE C X W b fb) : DT C X W (.Compare a [.NotEq] [b] pos) (cmpT neD fa fb) := t_cmp (op_neA hu) (by rw [hK]; exact s_ne) ha hb
theorem t_lt (ha : DE C X W a fa) (hb : DE C X W b fb) : DT C X W (.Compare a [.Lt] [b] pos) (cmpT ltD fa fb) := t_cmp op_lt s_lt ha hb
theorem t_le (ha : DE C X W a fa) (hb : DE C X W b fb) : DT C X W (.Compare a [.LtE] [b] pos) (cmpT leD fa fb) := t_cmp op_le s_le ha hb
theorem t_gt (ha : DE C X W a fa) (hb : DE C X W b fb) : DT C X W (.Compare a [.Gt] [b] pos) (cmpT gtD fa fb) := t_cmp op_gt s_gt ha hb
theorem t_isN (ha : DE C X W a fa) (hb : DE C X W b fb) : DT C X W (.Compare a [.Is] [b] pos) (cmpT isNoneD fa fb) := t_cmp op_isN s_isN ha hb
theorem t_in (hK : X.K = C.K) (hu : X.A.units + 64 < cLine) (ha : DE C X W a fa) (hb : DE C X W b fb) (hm : behindInMarks .In b = false := by rfl) : DT C X W (.Compare a [.In] [b] pos) (cmpT (inB false) fa fb) := t_cmp (op_inA (by omega)) (by rw [hK]; exact s_in false) ha hb hm
theorem t_notin (hK : X.K = C.K) (hu : X.A.units + 64 < cLine) (ha : DE C X W a fa) (hb : DE C X W b fb) (hm : behindInMarks .NotIn b = false := by rfl) : DT C X W (.Compare a [.NotIn] [b] pos) (cmpT (inB true) fa fb) := t_cmp (op_notInA (by omega)) (by rw [hK]; exact s_in true) ha hb hm
theorem t_lele (ha : DE C X W a fa) (hb : DE C X W b fb) (hc : DE C X W c fc) (hm : lastMarks [.LtE, .LtE] [b, c] = false := by with_unfolding_all rfl) : DT C X W (.Compare a [.LtE, .LtE] [b, c] pos) (chainT leD leD fa fb fc) := t_chain op_le op_le s_le s_le ha hb hc hm
theorem e_lele (ha : DE C X W a fa) (hb : DE C X W b fb) (hc : DE C X W c fc) (hm : lastMarks [.LtE, .LtE] [b, c] = false := by with_unfolding_all rfl) : DE C X W (.Compare a [.LtE, .LtE] [b, c] pos) (chainE leD leD fa fb fc) := d_chain op_le op_le s_le s_le ha hb hc hm
section
variable (hg : Gl X x)
theorem e_len (hK : X.K = C.K) (hm : X.mg "len" = none) (hg : Gl X "len") (ha : DA C X W (e :: es) fas)
    (he : starEach (e :: es) X.env = (false, eval e X.env) :: starEach es X.env := by rfl) (hpl : (backTo pos (starEach es X.env)).any (·.1) = false := by rfl) : DE C X W (.Call (.Name "len" p) (e :: es) [] pos) (callE lenF fas) :=
  d_callB (call_lenA (X := X)) (by rw [hK]; exact s_len) hg hm PySem.boot_len ha (by decide) (by decide) he hpl
theorem e_all (hK : X.K = C.K) (hc : X.calm = true) (hm : X.mg "all" = none) (hg : Gl X "all") (ha : DA C X W (e :: es) fas)
    (he : starEach (e :: es) X.env = (false, eval e X.env) :: starEach es X.env := by rfl) (hpl : (backTo pos (starEach es X.env)).any (·.1) = false := by rfl) : DE C X W (.Call (.Name "all" p) (e :: es) [] pos) (callE allF fas) :=
  d_callB (cr_all hc) (by rw [hK]; exact s_all) hg hm (by decide +kernel) ha (by decide) (by decide) he hpl
theorem e_any (hK : X.K = C.K) (hc : X.calm = true) (hm : X.mg "any" = none) (hg : Gl X "any") (ha : DA C X W (e :: es) fas)
    (he : starEach (e :: es) X.env = (false, eval e X.env) :: starEach es X.env := by rfl) (hpl : (backTo pos (starEach es X.env)).any (·.1) = false := by rfl) : DE C X W (.Call (.Name "any" p) (e :: es) [] pos) (callE anyF fas) :=
  d_callB (cr_any hc) (by rw [hK]; exact s_any) hg hm (by decide +kernel) ha (by decide) (by decide) he hpl
theorem e_tuple (hK : X.K = C.K) (hm : X.mg "tuple" = none) (hg : Gl X "tuple") (ha : DA C X W (e :: es) fas)
    (he : starEach (e :: es) X.env = (false, eval e X.env) :: starEach es X.env := by rfl) (hpl : (backTo pos (starEach es X.env)).any (·.1) = false := by rfl) : DE C X W (.Call (.Name "tuple" p) (e :: es) [] pos) (callE tupleF fas) :=
  d_callTy (call_tuple_of (X := X)) (by rw [hK]; exact s_tuple) hg hm (by decide +kernel) ha (by decide) (by decide) he hpl
end
theorem e_append (hK : X.K = C.K) {cpos : Pos} (ho : DE C X W o fo) (ha : DA C X W [e] fas)
    (hbase : attributeBase o "append" X.env (eval o X.env) = eval o X.env := by rfl)
    (hfew : ((backTo cpos (starEach [e] X.env)).all (fun x => !x.1) && (backToKw cpos (keywordEach [] X.env)).all (fun x => x.1.isSome)
      && decide ([e].length + ([] : List Keyword).length + (if ([] : List Keyword).isEmpty then 0 else 1) < 30)) = true := by rfl)
    (hline : (apos.endLine == cpos.line) = true := by rfl) (hs : starEach [e] X.env = (false, eval e X.env) :: starEach [] X.env := by rfl) (hplain : (backTo cpos (starEach [] X.env)).any (·.1) = false := by rfl) :
    DE C X W (.Call (.Attribute o "append" apos) [e] [] cpos) (bmE tyLst appendF fo fas) :=
  d_bm hK PySem.F.plainAttrs_list PySem.F.slot_list_append PySem.F.type_list_append mt_append s_append ty_lst ho ha hbase hfew hline hs hplain
end
section
variable {P : Program} {w : World} {K : PySem.W.Frag} {mg : Str → Option Value} {base : Heap} {C : Ctx}
structure RawF (K : PySem.W.Frag) (mg : Str → Option Value) (x : Str) (st : Stmt) (ps : List Str) : Prop where
  ex : ∃ f fd, Fun K x x st f fd ∧ mg x = some (.ref f) ∧ Binds K fd ps []
structure RawM (K : PySem.W.Frag) (C : Ctx) (c : Nat) (m q : Str) (st : Stmt) (ps : List Str) : Prop where
  ex : ∃ A f fd, C.cl c = some A ∧ Meth K A m f ∧ Fun K m q st f fd ∧ Binds K fd ps []
structure RawK (K : PySem.W.Frag) (mg : Str → Option Value) (C : Ctx) (x : Str) (c : Nat) (q : Str) (st : Stmt) (ps : List Str) : Prop where
  ex : ∃ A f fd, C.cl c = some A ∧ mg x = some (.ref A) ∧ Mk K A f ∧ Fun K "__init__" q st f fd ∧ Binds K fd ps []
theorem GF.mk' {x : Str} {st : Stmt} {N ps : List Str} {k : Nat} {B : DS0} (R : RawF K mg x st ps) (S : FnScope N ps (defScope st))
    (h : ∀ (f : Addr) (cdv : Value) (A : Around) (outer : List Env) (s : Shared) (H : Hp) (E : XK), Room k (A.deeper (envOfC x (defScope st) s.heap.objs.size f cdv)) →
      DSs C (cxOf (L2.CX P w) P w K mg base N x (defScope st) f cdv A outer s H E) (fun cv dx _ H' => E cv dx H') (defBody st) B) : GF P w K mg base C x (k + 1) ps.length (runFn N.length B) := by
  obtain ⟨f, fd, F, hm, hb⟩ := R.ex
  exact ⟨f, fd, ps, rfl, fn_okD F S (h f), hm, F.kp, hb⟩
theorem GM.mk' {c : Nat} {m q : Str} {st : Stmt} {N ps : List Str} {k : Nat} {B : DS0} (R : RawM K C c m q st ps) (S : FnScope N ps (defScope st))
    (h : ∀ (f : Addr) (cdv : Value) (A : Around) (outer : List Env) (s : Shared) (H : Hp) (E : XK), Room k (A.deeper (envOfC q (defScope st) s.heap.objs.size f cdv)) →
      DSs C (cxOf (L2.CX P w) P w K mg base N q (defScope st) f cdv A outer s H E) (fun cv dx _ H' => E cv dx H') (defBody st) B) : GM P w K mg base C c m (k + 1) ps.length (runFn N.length B) := by
  obtain ⟨A, f, fd, h1, h2, F, hb⟩ := R.ex
  exact ⟨A, f, fd, ps, h1, h2, rfl, fn_okD F S (h f), hb⟩
theorem GK.mk' {x q : Str} {c : Nat} {st : Stmt} {N ps : List Str} {k : Nat} {B : DS0} (R : RawK K mg C x c q st ps) (S : FnScope N ps (defScope st))
    (h : ∀ (f : Addr) (cdv : Value) (A : Around) (outer : List Env) (s : Shared) (H : Hp) (E : XK), Room k (A.deeper (envOfC q (defScope st) s.heap.objs.size f cdv)) →
      DSs C (cxOf (L2.CX P w) P w K mg base N q (defScope st) f cdv A outer s H E) (fun cv dx _ H' => E cv dx H') (defBody st) B) : GK P w K mg base C x c (k + 1) ps.length (runFn N.length B) := by
  obtain ⟨A, f, fd, h1, h2, h3, F, hb⟩ := R.ex
  exact ⟨A, f, fd, ps, h1, h2, h3, rfl, fn_okD F S (h f), hb⟩
/-- a module's constant -/
structure Cst (K : PySem.W.Frag) (mg : Str → Option Value) (x : Str) (d : D) : Prop where
  ex : ∃ u v, mg x = some u ∧ RelV v u ∧ ∀ g, Shr K g d v
theorem d_cst {X : Cx} {W : WX} {x : Str} {d : D} {pos : Pos} (hK : X.K = C.K) (c : Cst X.K X.mg x d) (hg : Gl X x) (hd : (x == ("__debug__" : Str)) = false := by decide) : DE C X W (.Name x pos) (constE d) := by
  obtain ⟨u, v, h1, h2, h3⟩ := c.ex
  exact d_glob hg h1 h2 (fun g => hK ▸ h3 g) hd
theorem passes_cx {CX : CXT} {N : List Str} {qual : Str} {scope : Scope} {f : Addr} {cd : Value} {A : Around} {outer : List Env} {s : Shared} {H : Hp} {E : XK} :
    PassesOwn (model P w) (cxOf CX P w K mg base N qual scope f cd A outer s H E).A (cxOf CX P w K mg base N qual scope f cd A outer s H E).env (cxOf CX P w K mg base N qual scope f cd A outer s H E).xe := passes_of rfl
theorem takes_cx {N : List Str} {qual : Str} {scope : Scope} {f : Addr} {cd : Value} {A : Around} {outer : List Env} {s : Shared} {H : Hp} {E : XK} :
    Takes (cxOf (L2.CX P w) P w K mg base N qual scope f cd A outer s H E) (fun cv dx _ H' => E cv dx H') := takes_of rfl rfl rfl rfl
end
end Dn
set_option linter.all false
namespace Dn
open PySem PySem.Spec PyProof.Rows L2
theorem hu1 {u : Nat} (h : u + 64 < cLine) : u + 1 < cLine := by omega
section
variable {P : Program} {w : World} {K : PySem.W.Frag} {mg : Str → Option Value} {base : Heap} {C : Ctx} {k : Nat}
theorem fn_bad {f : Addr} {fd : FuncData} {ps : List Str} {np : Nat} : FnOk P w K mg base (L2.CX P w) k f fd ps (spD C np fun _ _ => .bad) :=
  ⟨fun vs H Q E ⟨g, O, ds, _, _, _, h⟩ => h.elim, fun A outer s H args us vs Q E _ _ _ _ ⟨g, O, ds, _, _, _, h⟩ => h.elim⟩
theorem GF.bad {x : Str} {st : Stmt} {ps : List Str} (R : RawF K mg x st ps) : GF P w K mg base C x k ps.length fun _ _ => .bad := by
  obtain ⟨f, fd, F, hm, hb⟩ := R.ex
  exact ⟨f, fd, ps, rfl, fn_bad, hm, F.kp, hb⟩
theorem GM.bad {c : Nat} {m q : Str} {st : Stmt} {ps : List Str} (R : RawM K C c m q st ps) : GM P w K mg base C c m k ps.length fun _ _ => .bad := by
  obtain ⟨A, f, fd, h1, h2, F, hb⟩ := R.ex
  exact ⟨A, f, fd, ps, h1, h2, rfl, fn_bad, hb⟩
end
end Dn
namespace Dn
open PySem PySem.Spec PyProof.Rows L2
theorem blkX {N : List Str} {sc scope : Scope} {own : List (Str × Nat)} (h : blkC N sc scope own = true) : blkC N sc scope own = true := h
end Dn
set_option Elab.async false
set_option linter.all false
set_option maxRecDepth 100000
set_option maxHeartbeats 2000000
namespace Dn
open PySem PySem.Spec PyProof.Rows L2
section
variable {P : Program} {w : World} {K : PySem.W.Frag} {mg : Str → Option Value} {base h : Heap} {C : Dn.Ctx}
/-- a def as the top has written it -/
def FactF (K : PySem.W.Frag) (x q : Str) (st : Stmt) (f : Addr) : Prop := ∃ (oc : Value) (od an : Option Addr) (sl : Array (Option Value)) (kV dc pm cd ct : Value),
  K.lookup f = some ⟨oc, od, .func (PySem.W.fnOf x q (defArgs st) (defBody st) (defScope st) .none kV dc pm an cd ct), sl⟩ ∧ PySem.W.codeIn K cd q = true ∧ PySem.W.keepIn K (.ref f) = true
/-- how many arguments it takes -/
def BindOk (x q : Str) (st : Stmt) (ps : List Str) : Prop := ∀ (kV doc pm : Value) (an : Option Addr) (cdv ct : Value) (us : List Value), us.length = ps.length → bindArgs (PySem.W.fnOf x q (defArgs st) (defBody st) (defScope st) .none kV doc pm an cdv ct) ⟨us, []⟩ = pure (ps.zip us)
theorem rawF_mk {x : Str} {st : Stmt} {ps : List Str} {f : Addr} (X : K.In h) (G : h.Ns mainGlobals mg) (hb : BindOk x x st ps) (a : PySem.W.nsIn K mainGlobals x = some (some (.ref f))) (F : FactF K x x st f) : RawF K mg x st ps := by
  obtain ⟨oc, od, an, sl, kV, dc, pm, cd, ct, l, c, k⟩ := F
  exact ⟨f, _, fun_mk l c k, PySem.W.mg_of X G a, (fun_mk l c k).binds hb⟩
def FactC (K : PySem.W.Frag) (A : Addr) : Prop := PySem.W.plainGet K A Str.empty = true ∧ PySem.W.hasDictIn K A = true ∧ PySem.W.plainOver K A = true ∧ PySem.W.findIn K (.ref A) "__setattr__" = some (some (.builtin "object.__setattr__"))
theorem cls_mk {A : Addr} (F : FactC K A) : Cls K A := ⟨F.1, F.2.1, F.2.2.1, F.2.2.2⟩
theorem rawM_mk {c : Nat} {m q : Str} {st : Stmt} {ps : List Str} {A f : Addr} (hb : BindOk m q st ps) (hc : C.cl c = some A) (a : PySem.W.findIn K (.ref A) m = some (some (.ref f))) (i : PySem.W.isFn K (.ref f) = true) (F : FactF K m q st f) : RawM K C c m q st ps := by
  obtain ⟨oc, od, an, sl, kV, dc, pm, cd, ct, l, c', k⟩ := F
  exact ⟨A, f, _, hc, ⟨a, i, k⟩, fun_mk l c' k, (fun_mk l c' k).binds hb⟩
theorem rawK_mk {x q : Str} {c : Nat} {st : Stmt} {ps : List Str} {A f : Addr} (X : K.In h) (G : h.Ns mainGlobals mg) (hb : BindOk "__init__" q st ps) (hc : C.cl c = some A) (aC : PySem.W.nsIn K mainGlobals x = some (some (.ref A))) (mk : PySem.W.makesIn K A = true) (kc : PySem.W.keepIn K (.ref A) = true)
    (a : PySem.W.findIn K (.ref A) "__init__" = some (some (.ref f))) (i : PySem.W.isFn K (.ref f) = true) (F : FactF K "__init__" q st f) : RawK K mg C x c q st ps := by
  obtain ⟨oc, od, an, sl, kV, dc, pm, cd, ct, l, c', k⟩ := F
  exact ⟨A, f, _, hc, PySem.W.mg_of X G aC, ⟨mk, a, i, kc⟩, fun_mk l c' k, (fun_mk l c' k).binds hb⟩
/-- constants of the module -/
theorem cst_str {x : Str} {l : List Nat} {z : Str} {t : Tok} (X : K.In h) (G : h.Ns mainGlobals mg) (hz : z = ⟨l.toArray⟩) (a : PySem.W.nsIn K mainGlobals x = some (some (.str z t))) : Cst K mg x (.str l) :=
  ⟨_, .str z, PySem.W.mg_of X G a, ⟨t, rfl⟩, fun g => by subst hz; rfl⟩
theorem cst_int {x : Str} {i : Int} {t : Tok} (X : K.In h) (G : h.Ns mainGlobals mg) (a : PySem.W.nsIn K mainGlobals x = some (some (.int i t))) : Cst K mg x (.int i) :=
  ⟨_, .int i, PySem.W.mg_of X G a, ⟨t, rfl⟩, fun g => rfl⟩
/-- a tuple of texts -/
theorem cst_strs {x : Str} {ls : List (List Nat)} {zs : List Str} {p : Addr} {dd : Option Addr} {its : Array Value} {n : Nat} {sl : Array (Option Value)} (X : K.In h) (G : h.Ns mainGlobals mg) (a : PySem.W.nsIn K mainGlobals x = some (some (.ref p)))
    (l : K.lookup p = some ⟨.type "tuple", dd, .seq its n, sl⟩) (hz : zs = ls.map fun l => ⟨l.toArray⟩) (hi : Paired (fun (z : Str) (u : Value) => ∃ t, u = Value.str z t) zs its.toList) (hl : its.size ≤ sizeLine) : Cst K mg x (.tup (ls.map D.str)) := by
  refine ⟨_, .ref p, PySem.W.mg_of X G a, rfl, fun g => ?_⟩
  simp only [Shr]
  refine ⟨p, zs.map V.str, rfl, .inr ⟨_, its, n, l, rfl, rfl, hl, ?_⟩, ?_⟩
  · clear l
    generalize its.toList = us at hi
    clear hz
    induction hi with
    | nil => exact .nil
    | cons r _ ih => exact .cons r ih
  · subst hz
    clear hi
    induction ls with
    | nil => simp [ShrL]
    | cons y ys ih =>
      simp only [List.map_cons, ShrL]
      exact ⟨_, _, rfl, rfl, ih⟩
/-- law's promise: at most 63 ints in, True out -/
def spLaw (K : PySem.W.Frag) : Sp := fun vs H Q _ => ∃ (a : Addr) (ns : List Int), vs = [.ref a] ∧ SqL K H a (ns.map V.int) ∧ ns.length ≤ 63 ∧ ∀ H', Q (.bl true) H'
theorem law_imp {CX : CXT} {k : Nat} {f : Addr} {fd : FuncData} {x : Str} {fn : Fn} (hK : C.K = K) (main : ∀ ns : List Int, ns.length ≤ 63 → ∃ O, fn [.scr (ns.map D.int)] [] = .ok (.bl true) O) (F : FnOk P w K mg base CX k f fd [x] (spD C 1 fn)) :
    FnOk P w K mg base CX k f fd [x] (spLaw K) := F.imp fun vs H Q E ⟨a, ns, h1, h2, h3, h4⟩ => by
  subst h1
  obtain ⟨O, e⟩ := main ns h3
  refine ⟨⟨H, fun _ => 0, 0⟩, [], [.scr (ns.map D.int)], rfl, ⟨rfl, fun _ _ h => h, fun l c e => by simp at e, fun l hl => absurd hl (Nat.not_lt_zero _), fun i j hi => absurd hi (Nat.not_lt_zero _)⟩, ?_, ?_⟩
  · simp only [ShrL, Shr]
    exact ⟨_, [], rfl, ⟨a, ns.map V.int, rfl, hK ▸ h2, shrL_ints ns⟩, rfl⟩
  · rw [e]
    intro v g' H' _ _ s
    have s : v = .bl true := s
    subst s
    exact h4 H'
theorem cx_none {s : Shared} {e : Value} {s' : Shared} {H : Hp} : L2.CX P w [] H s (fun _ _ _ => False) e s' → False := fun hx => by
  obtain ⟨_, _, _, _, _, _, _, _, _, _, _, _, z⟩ := hx
  exact z.elim
theorem walkD {l : PySem.W.OpenLaw} {q : Program} {loose : List Str} {XP : (Str → Option Value) → Heap → Prop} {YP : World → Heap → Prop} {d : DefRec} {K : Params → PySem.W.Frag} {x : Str} {k : Nat} (hn : l.most = some 63) (hdf : d.params.defaults = []) (hr : Room k callerA)
    (hY : ∀ (w : World) (h : Heap), YP w h → (K w.params).In h)
    (F : ∀ (w : World) (mg : Str → Option Value) (fa : Addr) (h : Heap), (K w.params).In h → h.Ns mainGlobals mg → mg d.name = some (.ref fa) →
      ∃ fd : FuncData, (∀ (s : Shared) (u : Value), BindsTo s fd ⟨[u], []⟩ [(x, u)]) ∧ ∀ base : Heap, (K w.params).In base → base.Ns mainGlobals mg → FnOk l.prog w (K w.params) mg base (L2.CX l.prog w) k fa fd [x] (spLaw (K w.params))) :
    PySem.W.WalkO q loose XP YP l.row.toRowW d [] (fun f vs => PySem.call f vs) :=
  L2.walk_of (n := 63) (k := k) (x := x) (CX := fun w => L2.CX l.prog w) (sp := fun w => spLaw (K w.params)) hn (by decide) hdf hr hY F (fun _ _ a ns hl _ hS => ⟨a, ns, rfl, hS, hl, fun _ => rfl⟩) fun _ _ _ _ _ z => cx_none z
/-- the law's own def, from all -/
theorem law_end {x : Str} {st : Stmt} {k : Nat} {fn : Fn} {fa : Addr} (hK : C.K = K) (X : K.In h) (G : h.Ns mainGlobals mg) (hfa : mg "law" = some (.ref fa)) (hb : BindOk "law" "law" st [x]) {f : Addr} (a : PySem.W.nsIn K mainGlobals "law" = some (some (.ref f))) (F : FactF K "law" "law" st f)
    (main : ∀ ns : List Int, ns.length ≤ 63 → ∃ O, fn [.scr (ns.map D.int)] [] = .ok (.bl true) O)
    (ok : ∀ base : Heap, K.In base → base.Ns mainGlobals mg → ∀ fd, Fun K "law" "law" st f fd → FnOk P w K mg base (L2.CX P w) k f fd [x] (spD C 1 fn)) :
    ∃ fd : FuncData, (∀ (s : Shared) (u : Value), BindsTo s fd ⟨[u], []⟩ [(x, u)]) ∧ ∀ base : Heap, K.In base → base.Ns mainGlobals mg → FnOk P w K mg base (L2.CX P w) k fa fd [x] (spLaw K) := by
  have e := hfa.symm.trans (PySem.W.mg_of X G a)
  cases e
  obtain ⟨oc, od, an, sl, kV, dc, pm, cd, ct, l, c', k⟩ := F
  refine ⟨_, fun s u => .of_eq (hb kV dc pm an cd ct [u] rfl), fun base B1 B2 => law_imp hK main (ok base B1 B2 _ (fun_mk l c' k))⟩
end
end Dn
set_option Elab.async false
set_option linter.all false
set_option maxRecDepth 100000
set_option maxHeartbeats 2000000
namespace Dn
open PySem PySem.Spec PyProof.Rows L2
section
variable {C : Ctx} {X : Cx} {W : WX} {pos px py pz pt : Pos} {fas : Rho → Sto → Res (List D)}
def parS (i j : Nat) (fas : Rho → Sto → Res (List D)) : DS0 := fun r O => (fas r O).bindS r fun ds O1 => match ds with | [a, b] => .nx ((r.set i (some a)).set j (some b)) O1 | _ => .bad
theorem s_par (i j : Nat) {x y : Str} {a b : Expr} {kt k2 pt2} (hc : X.calm = true) (hN : X.N.Nodup) (ha : DA C X W [a, b] fas) (hi : X.N[i]? = some x := by rfl) (hj : X.N[j]? = some y := by rfl) (hij : i ≠ j := by decide)
    (hx : X.env.scope.names.lookup x = some .local := by first | rfl | assumption) (hy : X.env.scope.names.lookup y = some .local := by first | rfl | assumption)
    (hw : swappedStores [.Tuple [.Name x px, .Name y py] kt pt] (.Tuple [a, b] k2 pt2) X.env = pure (some [x, y]) := by rfl)
    (hs : swapsWithSole [.Tuple [.Name x px, .Name y py] kt pt] (.Tuple [a, b] k2 pt2) pos.line X.env = pure false := by rfl) :
    DS C X W (.Assign [.Tuple [.Name x px, .Name y py] kt pt] (.Tuple [a, b] k2 pt2) pos) (parS i j fas) :=
  let ⟨_, p, s⟩ := ha.ex
  ⟨_, ps_par hc hN hi hj hij hx hy p hw hs, fun g σ H r O R S E h => s.seqS R S h fun ds O1 vs g1 H1 e1 R1 S1 s1 h1 => by
    have s1 : ShrL C.K g1 ds vs := s1
    match ds, s1, h1 with
    | [], _, h1 => exact h1.elim
    | [_], _, h1 => exact h1.elim
    | _ :: _ :: _ :: _, _, h1 => exact h1.elim
    | [d1, d2], s1, h1 =>
      simp only [ShrL] at s1
      obtain ⟨v, q, rfl, sv, w, q2, rfl, sw, rfl⟩ := s1
      exact ⟨v, w, rfl, h1 _ g1 H1 (Ext.refl R1) R1 ((S1.set sv).set sw)⟩⟩
end
end Dn
set_option Elab.async false
set_option linter.all false
set_option maxRecDepth 100000
set_option maxHeartbeats 2000000
namespace Dn
open PySem PySem.Spec PyProof.Rows L2
/-- texts of a list -/
def strsD : List D → Option (List (List Nat))
  | [] => some []
  | .str x :: ds => match strsD ds with | some ys => some (x :: ys) | none => none
  | _ :: _ => none
section
variable {C : Ctx} {X : Cx} {W : WX} {g : G}
abbrev mkS (x : List Nat) : Str := ⟨x.toArray⟩
theorem tl_mkS (x : List Nat) : TL.tl (mkS x) = x := rfl
theorem map_tl_mkS : ∀ ys : List (List Nat), (ys.map mkS).map TL.tl = ys
  | [] => rfl
  | y :: ys => by rw [List.map_cons, List.map_cons, map_tl_mkS ys]
theorem shrL_strs {K : PySem.W.Frag} : ∀ {ds : List D} {ys : List (List Nat)} {vs : List V}, strsD ds = some ys → ShrL K g ds vs → vs = (ys.map mkS).map V.str
  | [], ys, vs, e, s => by simp [strsD] at e; subst e; simp only [ShrL] at s; rw [s]; first | rfl | done
  | d :: ds, ys, vs, e, s => by
    cases d with
    | str x =>
      simp only [strsD] at e
      split at e
      · rename_i zs ez
        cases e
        simp only [ShrL] at s
        obtain ⟨v, q, rfl, sv, sq⟩ := s
        cases sv
        rw [shrL_strs ez sq]; rfl
      · cases e
    | _ => simp [strsD] at e
theorem strs_shrL {K : PySem.W.Frag} : ∀ (ys : List (List Nat)), ShrL K g (ys.map D.str) ((ys.map mkS).map V.str)
  | [] => by simp [ShrL]
  | y :: ys => by simp only [List.map_cons, ShrL]; exact ⟨_, _, rfl, rfl, strs_shrL ys⟩
/-- s.join(xs) -/
def joinF : D → List D → Sto → ER := fun d ds O => match d, ds with
  | .str a, [x] => (match seqR x O with
    | some xs => (match strsD xs with | some ys => if (ys.map (·.length)).sum + ys.length * a.length ≤ 16777216 then .ok (.str (TL.joinL a ys)) O else .bad | none => .bad)
    | none => .bad)
  | _, _ => .bad
theorem s_join : SatM C W (fun x xs H Q => ∃ a p, ∃ ys : List Str, x = .str a ∧ xs = [.ref p] ∧ (SqL C.K H p (ys.map V.str) ∨ SqT C.K H p (ys.map V.str)) ∧
    (ys.map (·.length)).sum + ys.length * a.length ≤ 16777216 ∧ Q (.str (Txt.join a ys)) H) joinF := by
  intro g H O R d ds v vs s sl σ Q h
  unfold joinF at h
  split at h
  · rename_i a x
    cases s
    obtain ⟨w, rfl, sy⟩ := shrL_one sl
    split at h
    · rename_i xs e
      split at h
      · rename_i ys ey
        split at h
        · rename_i hz
          obtain ⟨p, ws, rfl, h2, h3⟩ := seqR_of R sy e
          have h4 := shrL_strs ey h3
          subst h4
          refine ⟨mkS a, p, ys.map mkS, rfl, rfl, h2, ?_, ?_⟩
          · rw [List.map_map, List.length_map]
            have : (fun z : Str => z.length) ∘ mkS = List.length := by funext z; simp [mkS, Str.length]
            show (ys.map ((fun z : Str => z.length) ∘ mkS)).sum + ys.length * (mkS a).length ≤ 16777216
            rw [this]
            have h5 : (mkS a).length = a.length := by simp [mkS, Str.length]
            rw [h5]; exact hz
          · refine h _ g H (Ext.refl R) R ?_
            show V.str (Txt.join (mkS a) (ys.map mkS)) = .str (mkS (TL.joinL a ys))
            congr 1
            refine TL.ext_tl ?_
            rw [TL.join_eq, TL.tl_join, map_tl_mkS]
        · exact h.elim
      · exact h.elim
    · exact h.elim
  · exact h.elim
/-- s.split(t) -/
def splitF (m : Bool) : D → List D → Sto → ER := fun d ds O => match d, ds with
  | .str a, [.str b] => if decide (b ≠ []) && b.all (· < 256) && decide (a.length ≤ 16000000) then mkL m ((TL.spl b 0 [] a).map D.str) O else .bad
  | _, _ => .bad
theorem s_split (m : Bool) : SatM C W (fun x xs H Q => ∃ a b, x = .str a ∧ xs = [.str b] ∧ (b.length == 0) = false ∧ a.length + 2 ≤ sizeLine ∧ rNewStrs (Txt.split a b) H Q) (splitF m) := by
  intro g H O R d ds v vs s sl σ Q h
  unfold splitF at h
  split at h
  · rename_i a b
    cases s
    obtain ⟨w, rfl, sy⟩ := shrL_one sl
    cases sy
    split at h
    · rename_i hc
      simp only [Bool.and_eq_true, decide_eq_true_eq] at hc
      obtain ⟨⟨hb, hk⟩, hz⟩ := hc
      have hlen : ∀ z : List Nat, (mkS z).length = z.length := fun z => by simp [mkS, Str.length]
      refine ⟨mkS a, mkS b, rfl, rfl, ?_, ?_, fun p hp => ?_⟩
      · rw [hlen]
        cases b with
        | nil => exact absurd rfl hb
        | cons => rfl
      · rw [hlen]
        have : sizeLine = 2 ^ 24 := rfl
        rw [this]; omega
      · have e := TL.split_spl (mkS a) (mkS b) hb (TL.kind_ok (by rw [← Array.all_toList]; exact hk))
        have e2 : Txt.split (mkS a) (mkS b) = (TL.spl b 0 [] a).map mkS := TL.map_tl_inj (by rw [e, map_tl_mkS])
        rw [e2]
        exact new_lst R (strs_shrL _) h hp
    · exact h.elim
  · exact h.elim
/-- s * n -/
def mulSD : O2 := fun a b O => match a, b with
  | .str x, .int k => if decide (x ≠ []) && decide (2 ≤ k) && decide (k ≤ 1000) && decide (x.length ≤ 1000) then .ok (.str (List.replicate k.toNat x).flatten) O else .bad
  | _, _ => .bad
def rRepS : R2 := fun x y H Q => ∃ (a : List Nat) (k : Int), x = .str (mkS a) ∧ y = .int k ∧ a ≠ [] ∧ 2 ≤ k ∧ k ≤ 1000 ∧ a.length ≤ 1000 ∧ Q (.str (mkS (List.replicate k.toNat a).flatten)) H
theorem fold_app (a : Array Nat) : ∀ (n : Nat) (b : Array Nat), ((List.replicate n a).foldl (· ++ ·) b) = (b.toList ++ (List.replicate n a.toList).flatten).toArray
  | 0, b => by simp
  | n + 1, b => by
    rw [List.replicate_succ, List.foldl_cons, fold_app a n, List.replicate_succ, List.flatten_cons]
    simp
theorem op_repS : OpR X (binaryOp .Mult) rRepS := by
  intro pins s σ H x y v u Q I rx ry h
  obtain ⟨a, k, rfl, rfl, hne, h1, h2, h3, q⟩ := h
  obtain ⟨t, rfl⟩ := rx
  obtain ⟨t', rfl⟩ := ry
  have hl : (mkS a).length = a.length := by simp [mkS, Str.length]
  have h0 : a.length ≠ 0 := fun e => hne (List.eq_nil_of_length_eq_zero e)
  refine P.mul_str ?_ ?_ ?_ ?_
  · rw [decide_eq_false (by omega), decide_eq_false (by omega)]; rfl
  · intro _ _ hh
    rw [hl] at hh
    have h4 : (9223372036854775807 : Int) / k * 1000 ≥ 0 := by
      have : (0 : Int) ≤ 9223372036854775807 / k := Int.ediv_nonneg (by omega) (by omega)
      omega
    have h5 : (1000 : Int) ≤ 9223372036854775807 / k := by
      refine (Int.le_ediv_iff_mul_le (by omega)).mpr ?_
      omega
    have h6 : ((2 : Int) ^ 63 - 1) = 9223372036854775807 := by decide
    rw [h6] at hh
    omega
  · intro _ _
    rw [hl]
    have h4 : a.length * k.toNat ≤ 1000 * 1000 := Nat.mul_le_mul h3 (by omega)
    simp only [Builtin.Str.tooLong, decide_eq_false_iff_not]
    have : sizeLine = 2 ^ 24 := rfl
    omega
  · rw [if_neg (by omega)]
    have hb : (k == 1 || (mkS a).length == 0) = false := by
      rw [hl, Bool.or_eq_false_iff]
      exact ⟨beq_eq_false_iff_ne.mpr (by omega), beq_eq_false_iff_ne.mpr h0⟩
    rw [if_neg (by rw [hb]; decide)]
    have e : (⟨(List.replicate k.toNat (mkS a).cps).foldl (· ++ ·) #[]⟩ : Str) = mkS (List.replicate k.toNat a).flatten := by
      rw [fold_app]; simp [mkS]
    rw [e]
    have h4 : k.toNat * a.length ≤ 1000 * 1000 := Nat.mul_le_mul (by omega) h3
    refine ⟨?_, ⟨.str (mkS (List.replicate k.toNat a).flatten), H, I.tok _, ⟨s.toks, rfl⟩, q⟩⟩
    have h7 : (mkS (List.replicate k.toNat a).flatten).length = k.toNat * a.length := by simp [mkS, Str.length]
    have : sizeLine = 2 ^ 24 := rfl
    rw [h7, this]; omega
theorem s_mulS : Sat2 C W rRepS mulSD := by
  intro g H O R a b x y sx sy σ Q h
  unfold mulSD at h
  split at h
  · cases sx; cases sy
    split at h
    · rename_i hc
      simp only [Bool.and_eq_true, decide_eq_true_eq] at hc
      exact ⟨_, _, rfl, rfl, hc.1.1.1, hc.1.1.2, hc.1.2, hc.2, Post.fin R rfl h⟩
    · exact h.elim
  · exact h.elim
variable {o e : Expr} {fo fa fb : DE0} {apos cpos pos : Pos} {a b : Expr} {fas : Rho → Sto → Res (List D)}
theorem e_mulS (ha : DE C X W a fa) (hb : DE C X W b fb) : DE C X W (.BinOp a .Mult b pos) (op2 mulSD fa fb) := d_op op_repS s_mulS ha hb
theorem e_join (hK : X.K = C.K) (ho : DE C X W o fo) (ha : DA C X W [e] fas)
    (hbase : attributeBase o "join" X.env (eval o X.env) = eval o X.env := by rfl)
    (hfew : ((backTo cpos (starEach [e] X.env)).all (fun x => !x.1) && (backToKw cpos (keywordEach [] X.env)).all (fun x => x.1.isSome)
      && decide ([e].length + ([] : List Keyword).length + (if ([] : List Keyword).isEmpty then 0 else 1) < 30)) = true := by rfl)
    (hline : (apos.endLine == cpos.line) = true := by rfl) (hs : starEach [e] X.env = (false, eval e X.env) :: starEach [] X.env := by rfl) (hplain : (backTo cpos (starEach [] X.env)).any (·.1) = false := by rfl) :
    DE C X W (.Call (.Attribute o "join" apos) [e] [] cpos) (bmE tyStr joinF fo fas) :=
  d_bm hK PySem.F.plainAttrs_str PySem.F.slot_str_join PySem.F.type_str_join mt_join (by rw [hK]; exact s_join) ty_str ho ha hbase hfew hline hs hplain
theorem e_split (m : Bool) (hK : X.K = C.K) (ho : DE C X W o fo) (ha : DA C X W [e] fas)
    (hbase : attributeBase o "split" X.env (eval o X.env) = eval o X.env := by rfl)
    (hfew : ((backTo cpos (starEach [e] X.env)).all (fun x => !x.1) && (backToKw cpos (keywordEach [] X.env)).all (fun x => x.1.isSome)
      && decide ([e].length + ([] : List Keyword).length + (if ([] : List Keyword).isEmpty then 0 else 1) < 30)) = true := by rfl)
    (hline : (apos.endLine == cpos.line) = true := by rfl) (hs : starEach [e] X.env = (false, eval e X.env) :: starEach [] X.env := by rfl) (hplain : (backTo cpos (starEach [] X.env)).any (·.1) = false := by rfl) :
    DE C X W (.Call (.Attribute o "split" apos) [e] [] cpos) (bmE tyStr (splitF m) fo fas) :=
  d_bm hK PySem.F.plainAttrs_str PySem.F.slot_str_split PySem.F.type_str_split mt_split (s_split m) ty_str ho ha hbase hfew hline hs hplain
end
end Dn
set_option Elab.async false
set_option linter.all false
set_option maxRecDepth 100000
set_option maxHeartbeats 2000000
namespace Dn
open PySem PySem.Spec PyProof.Rows L2
section
variable {C : Ctx} {X : Cx} {W : WX} {o e : Expr} {fo : DE0} {fas : Rho → Sto → Res (List D)} {apos cpos : Pos}
def startswithF : D → List D → Sto → ER := fun d ds O => match d, ds with
  | .str a, [.str b] => .ok (.bl (decide (b.length ≤ a.length) && (a.take b.length == b))) O
  | _, _ => .bad
theorem s_startswith : SatM C W (fun x xs H Q => ∃ a b, x = .str a ∧ xs = [.str b] ∧ Q (.bl (Txt.startswith a b)) H) startswithF := by
  intro g H O R d ds v vs s sl σ Q h
  unfold startswithF at h
  split at h
  · rename_i a b
    cases s
    obtain ⟨w, rfl, sy⟩ := shrL_one sl
    cases sy
    refine ⟨mkS a, mkS b, rfl, rfl, ?_⟩
    have hlen : ∀ z : List Nat, (mkS z).length = z.length := fun z => by simp [mkS, Str.length]
    have e : Txt.startswith (mkS a) (mkS b) = (decide (b.length ≤ a.length) && (a.take b.length == b)) := by
      unfold Txt.startswith
      rw [StrLaws.subAt_eq, hlen, hlen, Nat.zero_add]
      rfl
    rw [e]
    exact Post.fin R rfl h
  · exact h.elim
theorem e_startswith (hK : X.K = C.K) (ho : DE C X W o fo) (ha : DA C X W [e] fas)
    (hbase : attributeBase o "startswith" X.env (eval o X.env) = eval o X.env := by rfl)
    (hfew : ((backTo cpos (starEach [e] X.env)).all (fun x => !x.1) && (backToKw cpos (keywordEach [] X.env)).all (fun x => x.1.isSome)
      && decide ([e].length + ([] : List Keyword).length + (if ([] : List Keyword).isEmpty then 0 else 1) < 30)) = true := by rfl)
    (hline : (apos.endLine == cpos.line) = true := by rfl) (hs : starEach [e] X.env = (false, eval e X.env) :: starEach [] X.env := by rfl) (hplain : (backTo cpos (starEach [] X.env)).any (·.1) = false := by rfl) :
    DE C X W (.Call (.Attribute o "startswith" apos) [e] [] cpos) (bmE tyStr startswithF fo fas) :=
  d_bm hK PySem.F.plainAttrs_str PySem.F.slot_str_startswith PySem.F.type_str_startswith mt_startswith s_startswith ty_str ho ha hbase hfew hline hs hplain
end
end Dn
set_option Elab.async false
set_option linter.all false
set_option maxRecDepth 100000
set_option maxHeartbeats 2000000
namespace Dn
open PySem PySem.Spec PyProof.Rows L2
section
variable {C : Ctx} {X : Cx} {W : WX} {A : Addr} {bmB : List Value} {B newId initId : String} {x : Str} {p pos pos' : Pos}
/-- raise X(), an own class without own __init__, no arguments -/
theorem pmk_own0 (F : ExcBaseFacts B newId initId bmB) (q : PySem.W.excIn X.K A bmB newId = true) (gC : X.mg x = some (.ref A)) (kC : PySem.W.keepIn X.K (.ref A) = true) (r : Raises X (.ref A)) (hg : Gl X x)
    (hdb : (x == ("__debug__" : Str)) = false := by decide) : PMk X (.Call (.Name x p) [] [] pos) (fun _ H Q => Q (.ref A) none H) := by
  intro pins s σ H Q I h
  refine wpAny_Call_Name_kw (ld_glob I hg gC ?_ hdb)
  refine PySem.W.callWith_K0 I.kIn kC ?_
  obtain ⟨_, _, _, _, _, _, _, _, _, _, _, _, _, _, _, _, _, hObj, hSpace, noInit, hTail⟩ := exc_obj I.kIn q
  refine wpAny_call_exc_subT F hTail hObj hSpace noInit (fun h' e hm => ?_) (by show 0 ≤ sizeLine; exact Nat.zero_le _)
  exact mk_of I hm r h (I.hok.gone hm.new)
/-- what is known of an own error's class -/
structure ExcF (K : PySem.W.Frag) (A : Addr) : Prop where
  q : PySem.W.excIn K A [.type "ValueError", .type "Exception", .type "BaseException", .type "object"] "ValueError.__new__" = true
  keep : PySem.W.keepIn K (.ref A) = true
  sub : PySem.W.subIn K (.ref A) (.type "BaseException") = some true
  ty : PySem.W.typeIn K (.ref A) = some (.type "type")
def raiseS (i : Nat) : DS0 := fun r O => .exc ⟨i, []⟩ r O
theorem s_raise0 (i : Nat) (hc : X.calm = true) (tk : Takes X W) (hK : X.K = C.K) (he : C.ec i = some A) (F : ExcF C.K A) (gC : X.mg x = some (.ref A)) (hg : Gl X x := by rfl)
    (hdb : (x == ("__debug__" : Str)) = false := by decide) : DS C X W (.Raise (some (.Call (.Name x p) [] [] pos)) none pos') (raiseS i) :=
  ⟨_, ps_raise hc tk (pmk_own0 PySem.F.excBase_ValueError (hK ▸ F.q) gC (hK ▸ F.keep) (raises_own (hK ▸ F.sub) (hK ▸ F.ty)) hg hdb), fun g σ H r O R S E h => by
    exact h _ _ _ _ _ (Ext.refl R) R S ⟨A, he, rfl, .inl ⟨rfl, rfl⟩⟩⟩
theorem PSs.imp {st : List Stmt} {t t' : TS} (h : PSs X st t) (i : ∀ E σ H, t' E σ H → t E σ H) : PSs X st t' := ⟨fun pins s σ H D I q => h.run pins s σ H D I (i D σ H q)⟩
/-- the least that a row of statements asks -/
def tOf (C : Ctx) (W : WX) (f : DS0) : TS := fun E σ H => ∃ g r O, RepO C g H O ∧ RepS C g σ r ∧ PostS C W g H (f r O) E
theorem pss_of {st : List Stmt} {f : DS0} (h : DSs C X W st f) : PSs X st (tOf C W f) :=
  let ⟨_, p, s⟩ := h.ex
  PSs.imp p fun E σ H ⟨g, r, O, R, S, q⟩ => s g σ H r O R S E q
abbrev noW : WX := fun _ _ _ _ => False
/-- try: .. except X: .. (no error leaves the clause) -/
def tryS (i : Nat) (f h : DS0) : DS0 := fun r O => match f r O with
  | .exc e r1 O1 => if e.cls = i then (match h r1 O1 with | .exc _ _ _ => .bad | y => y) else .exc e r1 O1
  | y => y
theorem s_try (i : Nat) {c : Value} {np : Pos} {b₀ : Stmt} {body suite : List Stmt} {f h : DS0} (hs : X.stack = X.env :: X.outer) (hf : X.env.frame = some X.env.locals) (hK : X.K = C.K) (hc : Names X x c) (tk : Takes X W)
    (hm : ∀ j A', C.ec j = some A' → PySem.W.exmOne C.K (.ref A') c = some (decide (j = i)))
    (hb : ∀ (W' : WX) (pn : List (Addr × Obj)) (xe : Value → Shared → Prop), Takes (X.tr pn xe) W' → PassesOwn (model X.prog X.w) X.A X.env xe → DSs C (X.tr pn xe) W' body f)
    (hsu : ∀ (a : Addr) (pn : List (Addr × Obj)), DSs C (X.suite a pn) noW (b₀ :: suite) h) :
    DS C X W (.Try body [.ExceptHandler (some (.Name x np)) none (b₀ :: suite) pos'] [] [] pos) (tryS i f h) :=
  ⟨_, ps_try_only (tb := fun W' => tOf C W' f) (ts := fun _ _ _ => tOf C noW h) (Wout := W) hs hf hc tk (fun W' pn xe t p => pss_of (hb W' pn xe t p)) (fun a oe cls d pn _ _ => pss_of (hsu a _)), fun g σ H r O R S E q => by
    refine ⟨g, r, O, R, S, ?_⟩
    unfold tryS at q
    cases z : f r O with
    | nx r1 O1 => rw [z] at q; exact q
    | ret d O1 => rw [z] at q; exact q
    | bk r1 O1 => rw [z] at q; exact q
    | ct r1 O1 => rw [z] at q; exact q
    | bad => rw [z] at q; exact q
    | exc e r1 O1 =>
      rw [z] at q
      intro cv dx σ' g' H' ex R' S' er
      obtain ⟨A', h1, rfl, h3⟩ := er
      refine ⟨decide (e.cls = i), by rw [hK]; exact hm _ _ h1, fun hb a _ => ?_, fun hb => ?_⟩
      · simp only [decide_eq_true_eq] at hb
        dsimp only at q
        rw [if_pos hb] at q
        refine ⟨g', r1, O1, R', S', ?_⟩
        cases y : h r1 O1 with
        | exc _ _ _ => rw [y] at q; exact q.elim
        | nx _ _ => rw [y] at q; exact PostS.shift (x := .nx _ _) ex q
        | ret _ _ => rw [y] at q; exact PostS.shift (x := .ret _ _) ex q
        | bk _ _ => rw [y] at q; exact PostS.shift (x := .bk _ _) ex q
        | ct _ _ => rw [y] at q; exact PostS.shift (x := .ct _ _) ex q
        | bad => rw [y] at q; exact q
      · simp only [decide_eq_false_iff_not] at hb
        dsimp only at q
        rw [if_neg hb] at q
        exact q _ _ _ _ _ ex R' S' ⟨A', h1, rfl, h3⟩⟩
end
end Dn
set_option Elab.async false
set_option linter.all false
set_option maxRecDepth 100000
set_option maxHeartbeats 2000000
namespace Dn
open PySem PySem.Spec PyProof.Rows L2
section
variable {C : Ctx} {X : Cx} {W : WX} {o e f : Expr} {fo : DE0} {fas : Rho → Sto → Res (List D)} {apos cpos pos : Pos}
def dic0E : DE0 := fun _ O => .ok (.ob O.length) (O ++ [.dic []])
theorem d_dict0 : DE C X W (.Dict [] [] pos) dic0E :=
  ⟨_, pe_dnewK, fun g σ H r O R S Q h p hp => by
    have hk : ∀ a o, H a = some o → upd H p (.dK []) a = some o := fun a o e => by rw [upd_ne (ne_of_none e hp)]; exact e
    refine h _ (g.add p) _ (Ext.add R hp hk) (R.add hp hk ⟨[], upd_same, by simp [ShrK]⟩) ?_
    show Shr _ _ (.ob O.length) _
    simp only [Shr]
    rw [← R.n, G.add_at]
    exact ⟨rfl, Nat.lt_succ_self _⟩⟩
def get2D (d k x : D) (O : Sto) : ER := match dicOf d O, keyD k with
  | some (_, kvs), some k => .ok ((getK kvs k).getD x) O
  | _, _ => .bad
def getE2 (fo fa fb : DE0) : DE0 := fun r O => (fo r O).bind fun d O1 => if tyDic d O1 then (fa r O1).bind fun k O2 => (fb r O2).bind fun x O3 => get2D d k x O3 else .bad
theorem e_get2 {fa fb : DE0} (hu : X.A.units + 1 < cLine) (ho : DE C X W o fo) (ha : DE C X W e fa) (hb : DE C X W f fb) (m : M2 X o "get" apos e f cpos := by exact ⟨rfl, rfl, rfl, rfl⟩) :
    DE C X W (.Call (.Attribute o "get" apos) [e, f] [] cpos) (getE2 fo fa fb) :=
  let ⟨_, po, so⟩ := ho.ex; let ⟨_, pa, sa⟩ := ha.ex; let ⟨_, pb, sb⟩ := hb.ex
  ⟨_, pe_dget2 hu po pa pb m, fun g σ H r O R S Q h => so.seq R S h fun d O1 v g1 H1 e1 R1 S1 s1 h1 => by
    split at h1
    · rename_i hy
      unfold tyDic at hy
      cases q : dicOf d O1 with
      | none => rw [q] at hy; cases hy
      | some lk =>
        obtain ⟨l, kvs⟩ := lk
        obtain ⟨rfl, _, _, ws, h2, _⟩ := dicOf_of R1 s1 q
        refine ⟨_, rfl, .inl ⟨ws, .inl h2⟩, sa.seq R1 S1 h1 fun k O2 kv g2 H2 e2 R2 S2 s2 h3 => sb.seq R2 S2 h3 fun x O3 xv g3 H3 e3 R3 S3 s3 h4 => ?_⟩
        have h4 : Post C W σ g3 H3 (get2D d k x O3) Q := h4
        unfold get2D at h4
        split at h4
        · rename_i l' kvs' k' eq1 eq2
          have sd := (s1.mono e2.le).mono e3.le
          obtain ⟨hv, _, _, ws', h5, h6⟩ := dicOf_of R3 sd eq1
          have hkk := keyD_of s2 eq2
          subst hkk
          obtain ⟨a1, a2⟩ := shrK_get (k := k') h6
          cases z : getK kvs' k' with
          | some y =>
            obtain ⟨u, b1, b2⟩ := a1 y z
            rw [z] at h4
            refine ⟨some u, ?_, Post.fin R3 b2 h4⟩
            rw [← b1]
            rw [show g1.θ l = g3.θ l' from by injection hv]
            exact DGet.k h5
          | none =>
            rw [z] at h4
            refine ⟨none, ?_, Post.fin R3 (s3) h4⟩
            rw [← a2 z]
            rw [show g1.θ l = g3.θ l' from by injection hv]
            exact DGet.k h5
        · exact h4.elim
    · exact h1.elim⟩
/-- does a clause name an error's class -/
theorem exm_mk {K : PySem.W.Frag} {E S : Addr} {b : Bool} (hS : PySem.W.subIn K (.ref S) (.type "BaseException") = some true) (hc : PySem.W.isClsIn K S = true) (ht : PySem.W.typeIn K (.ref S) = some (.type "type")) (hb : PySem.W.subIn K (.ref E) (.ref S) = some b) :
    PySem.W.exmOne K (.ref E) (.ref S) = some b := by
  have hc' : (PySem.W.clsIn K S).isSome = true := hc
  have a : (PySem.W.subIn K (.ref S) (.type "BaseException") == some true) = true := by rw [hS]; rfl
  have c : ((PySem.W.clsIn K S).isSome && PySem.W.typeIn K (.ref S) == some (.type "type")) = true := by rw [hc', ht]; rfl
  unfold PySem.W.exmOne
  rw [if_pos a]
  exact (if_pos c).trans hb
end
end Dn
set_option Elab.async false
set_option linter.all false
set_option maxRecDepth 100000
set_option maxHeartbeats 2000000
namespace Dn
open PySem PySem.Spec PyProof.Rows L2
section
variable {C : Ctx} {X : Cx} {W : WX} {e : Expr} {es : List Expr} {fas : Rho → Sto → Res (List D)} {p pos : Pos}
def max2F : List D → Sto → ER := fun ds O => match ds with | [.int i, .int j] => .ok (.int (if j > i then j else i)) O | _ => .bad
def min2F : List D → Sto → ER := fun ds O => match ds with | [.int i, .int j] => .ok (.int (if j < i then j else i)) O | _ => .bad
theorem shrL_ints2 {g : G} {i j : Int} {vs : List V} (s : ShrL C.K g [.int i, .int j] vs) : vs = [.int i, .int j] := by
  simp only [ShrL] at s
  obtain ⟨v, q, rfl, h1, w, q2, rfl, h2, rfl⟩ := s
  cases h1; cases h2; rfl
theorem s_min2 : SatC C W (fun xs H Q => ∃ i j, xs = [.int i, .int j] ∧ Q (.int (if j < i then j else i)) H) min2F := by
  intro g H O R ds vs s σ Q h
  unfold min2F at h
  split at h
  · have := shrL_ints2 s
    subst this
    exact ⟨_, _, rfl, Post.fin R rfl h⟩
  · exact h.elim
theorem e_min2 (hK : X.K = C.K) (hc : X.calm = true) (hm : X.mg "min" = none) (hg : Gl X "min") (ha : DA C X W (e :: es) fas)
    (he : starEach (e :: es) X.env = (false, eval e X.env) :: starEach es X.env := by rfl) (hpl : (backTo pos (starEach es X.env)).any (·.1) = false := by rfl) : DE C X W (.Call (.Name "min" p) (e :: es) [] pos) (callE min2F fas) :=
  d_callB (call_min2 hc) s_min2 hg hm (by decide +kernel) ha (by decide) (by decide) he hpl
/-- the text of a whole number -/
def numT (i : Int) : List Nat := (toString i).toList.map Char.toNat
theorem mkS_num (i : Int) : Str.ofString (toString i) = mkS (numT i) := TL.ext_tl (TL.tl_ofString _)
def strF : List D → Sto → ER := fun ds O => match ds with | [.int i] => if i.natAbs.log2 < 1920 then .ok (.str (numT i)) O else .bad | _ => .bad
theorem s_str : SatC C W (fun xs H Q => ∃ i : Int, xs = [.int i] ∧ i.natAbs.log2 < 1920 ∧ Q (.str (toString i)) H) strF := by
  intro g H O R ds vs s σ Q h
  unfold strF at h
  split at h
  · rename_i i
    obtain ⟨v, rfl, sv⟩ := shrL_one s
    cases sv
    split at h
    · rename_i hz
      refine ⟨i, rfl, hz, Post.fin R ?_ h⟩
      show V.str (Str.ofString (toString i)) = .str (mkS (numT i))
      rw [mkS_num]
    · exact h.elim
  · exact h.elim
theorem e_str (hm : X.mg "str" = none) (hg : Gl X "str") (ha : DA C X W (e :: es) fas)
    (he : starEach (e :: es) X.env = (false, eval e X.env) :: starEach es X.env := by rfl) (hpl : (backTo pos (starEach es X.env)).any (·.1) = false := by rfl) : DE C X W (.Call (.Name "str" p) (e :: es) [] pos) (callE strF fas) :=
  d_callTy (call_str_int (X := X)) s_str hg hm (by decide +kernel) ha (by decide) (by decide) he hpl
end
end Dn
set_option Elab.async false
set_option linter.all false
set_option maxRecDepth 100000
set_option maxHeartbeats 2000000
namespace Dn
open PySem PySem.Spec PyProof.Rows L2
section
variable {C : Ctx} {X : Cx} {W : WX} {e v1 v2 : Expr} {es rest : List Expr} {f : DE0} {pos : Pos}
def fmtD (d : D) (O : Sto) : ER := match d with
  | .str x => if x.length ≤ sizeLine then .ok (.str x) O else .bad
  | .int i => if i.natAbs.log2 < 1920 then .ok (.str (numT i)) O else .bad
  | _ => .bad
def fmtE (f : DE0) : DE0 := fun r O => (f r O).bind fun d O1 => fmtD d O1
theorem j_val (h : DE C X W e f) : DE C X W (.FormattedValue e (-1) none pos) (fmtE f) :=
  let ⟨_, p, s⟩ := h.ex
  ⟨_, pe_fmt p, fun g σ H r O R S Q q => s.seq R S q fun d O1 v g1 H1 e1 R1 S1 s1 h1 => by
    have h1 : Post C W σ g1 H1 (fmtD d O1) Q := h1
    unfold fmtD at h1
    split at h1
    · rename_i x
      cases s1
      split at h1
      · rename_i hz
        exact .inl ⟨_, rfl, by simpa [Str.length] using hz, Post.fin R1 rfl h1⟩
      · exact h1.elim
    · cases s1
      split at h1
      · rename_i hz
        refine .inr ⟨_, rfl, hz, Post.fin R1 ?_ h1⟩
        exact congrArg V.str (mkS_num _)
      · exact h1.elim
    · exact h1.elim⟩
abbrev DJ0 := List Nat → Rho → Sto → ER
def nilJ : DJ0 := fun acc _ O => .ok (.str acc) O
def consJ (f : DE0) (j : DJ0) : DJ0 := fun acc r O => (f r O).bind fun d O1 => match d with
  | .str y => if acc.length + y.length ≤ sizeLine then j (acc ++ y) r O1 else .bad
  | _ => .bad
def joinE (j : DJ0) : DE0 := fun r O => j [] r O
structure DJ (C : Ctx) (X : Cx) (W : WX) (es : List Expr) (j : DJ0) : Prop where
  ex : ∃ ts, PJ X es ts ∧ ∀ acc g σ H r O, RepO C g H O → RepS C g σ r → ∀ Q : VK, Post C W σ g H (j acc r O) Q → tJs ts (mkS acc) σ H fun out H1 => Q (.str out) H1
theorem j_nil : DJ C X W [] nilJ := ⟨[], .nil, fun acc g σ H r O R S Q h => h _ g H (Ext.refl R) R rfl⟩
theorem mkS_app (x y : List Nat) : mkS x ++ mkS y = mkS (x ++ y) := TL.ext_tl (by rw [TL.tl_append])
theorem j_cons {j : DJ0} (h : DE C X W e f) (hr : DJ C X W es j) : DJ C X W (e :: es) (consJ f j) :=
  let ⟨_, p, s⟩ := h.ex; let ⟨_, q, u⟩ := hr.ex
  ⟨_, .cons p q, fun acc g σ H r O R S Q h => s.seq R S h fun d O1 v g1 H1 e1 R1 S1 s1 h1 => by
    split at h1
    · rename_i y
      cases s1
      split at h1
      · rename_i hz
        refine ⟨mkS y, rfl, ?_, ?_⟩
        · rw [mkS_app]
          simpa [mkS, Str.length] using hz
        · rw [mkS_app]
          exact u (acc ++ y) g1 σ H1 r O1 R1 S1 Q h1
      · exact h1.elim
    · exact h1.elim⟩
theorem d_join {j : DJ0} (h : DJ C X W (v1 :: v2 :: rest) j) : DE C X W (.JoinedStr (v1 :: v2 :: rest) pos) (joinE j) :=
  let ⟨_, p, s⟩ := h.ex
  ⟨_, pe_joined p, fun g σ H r O R S Q h => s [] g σ H r O R S Q h⟩
end
end Dn
set_option Elab.async false
set_option linter.all false
set_option maxRecDepth 100000
set_option maxHeartbeats 2000000
namespace Dn
open PySem PySem.Spec PyProof.Rows L2
section
variable {C : Ctx} {X : Cx} {W : WX} {o e f : Expr} {es : List Expr} {fo : DE0} {fas : Rho → Sto → Res (List D)} {apos cpos p pos : Pos}
theorem len_mkS (z : List Nat) : (mkS z).length = z.length := by simp [mkS, Str.length]
def asI (k : Option Nat) : Int := match k with | some k => (k : Int) | none => -1
/-- .find(c, i), of one sign -/
def fromL (n : Nat) (i : Int) : Nat := (max 0 (if i < 0 then i + n else i)).toNat
def find2L (x : List Nat) (c : Nat) (i : Int) : Option Nat := (List.range x.length).find? fun k => decide (fromL x.length i ≤ k) && (x.getD k 0 == c)
theorem find2_L (x : List Nat) (c : Nat) (i : Int) : Txt.find3 (mkS x) ⟨#[c]⟩ i = asI (find2L x c i) := by
  have hg : ∀ k, (mkS x).cps.getD k 0 = x.getD k 0 := fun k => by
    simp [mkS, Array.getD_eq_getD_getElem?, List.getD_eq_getElem?_getD]
  rcases StrLaws.find3_spec (mkS x) c i with ⟨e, hn⟩ | ⟨k, e, h1, h2, h3, h4⟩
  · rw [e]
    have : find2L x c i = none := by
      unfold find2L
      rw [List.find?_eq_none]
      intro k hk h
      rw [Bool.and_eq_true, decide_eq_true_eq, beq_iff_eq] at h
      refine hn k ?_ ?_ ?_
      · rw [len_mkS]; exact h.1
      · rw [len_mkS]; exact List.mem_range.mp hk
      · rw [hg]; exact h.2
    rw [this]; rfl
  · rw [e]
    rw [len_mkS] at h1 h2
    have : find2L x c i = some k := by
      unfold find2L
      rw [List.find?_range_eq_some]
      refine ⟨?_, List.mem_range.mpr h2, fun j hj => ?_⟩
      · rw [Bool.and_eq_true, decide_eq_true_eq, beq_iff_eq]
        exact ⟨h1, by rw [← hg]; exact h3⟩
      · rw [Bool.not_eq_true', ← Bool.not_eq_true, Bool.and_eq_true, decide_eq_true_eq, beq_iff_eq]
        rintro ⟨z1, z2⟩
        exact h4 j (by rw [len_mkS]; exact z1) hj (by rw [hg]; exact z2)
    rw [this]; rfl
def find2F : D → List D → Sto → ER := fun d ds O => match d, ds with
  | .str a, [.str [c], .int i] => .ok (.int (asI (find2L a c i))) O
  | _, _ => .bad
theorem s_find2 : SatM C W (fun x xs H Q => ∃ (a b : Str) (i : Int), x = .str a ∧ xs = [.str b, .int i] ∧ Q (.int (Txt.find3 a b i)) H) find2F := by
  intro g H O R d ds v vs s sl σ Q h
  unfold find2F at h
  split at h
  · rename_i a c i
    cases s
    obtain ⟨v, w, rfl, sy, sz⟩ := shrL_two sl
    cases sy; cases sz
    refine ⟨mkS a, ⟨#[c]⟩, i, rfl, rfl, ?_⟩
    rw [find2_L]
    exact Post.fin R rfl h
  · exact h.elim
/-- s.partition(t) -/
def parD (a b : List Nat) : List D := match TL.par b [] a with | some (p, q) => [.str p, .str b, .str q] | none => [.str a, .str [], .str []]
def partition1F : D → List D → Sto → ER := fun d ds O => match d, ds with
  | .str a, [.str b] => if decide (b ≠ []) && decide (a.length ≤ sizeLine) then .ok (.tup (parD a b)) O else .bad
  | _, _ => .bad
theorem s_partition1 : SatM C W (fun x xs H Q => ∃ a b, x = .str a ∧ xs = [.str b] ∧ (b.length == 0) = false ∧ a.length ≤ sizeLine ∧ ∀ p, H p = none → Q (.ref p) (upd H p (.tup [.str (Txt.partition a b).1, .str (Txt.partition a b).2.1, .str (Txt.partition a b).2.2]))) partition1F := by
  intro g H O R d ds v vs s sl σ Q h
  unfold partition1F at h
  split at h
  · rename_i a b
    cases s
    obtain ⟨w, rfl, sy⟩ := shrL_one sl
    cases sy
    split at h
    · rename_i hc
      simp only [Bool.and_eq_true, decide_eq_true_eq] at hc
      refine ⟨mkS a, mkS b, rfl, rfl, ?_, by rw [len_mkS]; exact hc.2, fun p hp => new_tup R ?_ h hp⟩
      · rw [len_mkS]
        cases b with
        | nil => exact absurd rfl hc.1
        | cons => rfl
      · rw [TL.partition_par (mkS a) (mkS b) hc.1]
        have e1 : TL.tl (mkS a) = a := rfl
        have e2 : TL.tl (mkS b) = b := rfl
        rw [e1, e2]
        unfold parD
        cases TL.par b [] a with
        | none => exact strs_shrL [a, [], []]
        | some pq => exact strs_shrL [pq.1, b, pq.2]
    · exact h.elim
  · exact h.elim
/-- .ljust, .rjust -/
theorem tl_padded (x : Str) (m n c : Nat) : TL.tl (Builtin.Str.padded x m n c) = List.replicate m c ++ TL.tl x ++ List.replicate n c := by
  unfold Builtin.Str.padded TL.tl
  simp
def ljust1F : D → List D → Sto → ER := fun d ds O => match d, ds with
  | .str a, [.int i] => if PadOk i then .ok (.str (a ++ List.replicate (i.toNat - a.length) 32)) O else .bad
  | _, _ => .bad
def rjust1F : D → List D → Sto → ER := fun d ds O => match d, ds with
  | .str a, [.int i] => if PadOk i then .ok (.str (List.replicate (i.toNat - a.length) 32 ++ a)) O else .bad
  | _, _ => .bad
theorem ljust_L (a : List Nat) (i : Int) : Txt.ljust (mkS a) i = mkS (a ++ List.replicate (i.toNat - a.length) 32) := by
  unfold Txt.ljust
  rw [len_mkS]
  split
  · have : i.toNat - a.length = 0 := by omega
    rw [this]; simp
  · refine TL.ext_tl ?_
    rw [tl_padded]; simp [TL.tl_mk, tl_mkS]
theorem rjust_L (a : List Nat) (i : Int) : Txt.rjust (mkS a) i = mkS (List.replicate (i.toNat - a.length) 32 ++ a) := by
  unfold Txt.rjust
  rw [len_mkS]
  split
  · have : i.toNat - a.length = 0 := by omega
    rw [this]; simp
  · refine TL.ext_tl ?_
    rw [tl_padded]; simp [TL.tl_mk, tl_mkS]
theorem s_ljust1 : SatM C W (fun x xs H Q => ∃ (a : Str) (i : Int), x = .str a ∧ xs = [.int i] ∧ PadOk i = true ∧ Q (.str (Txt.ljust a i)) H) ljust1F := by
  intro g H O R d ds v vs s sl σ Q h
  unfold ljust1F at h
  split at h
  · rename_i a i
    cases s
    obtain ⟨w, rfl, sy⟩ := shrL_one sl
    cases sy
    split at h
    · rename_i hc
      refine ⟨mkS a, i, rfl, rfl, hc, ?_⟩
      rw [ljust_L]
      exact Post.fin R rfl h
    · exact h.elim
  · exact h.elim
theorem s_rjust1 : SatM C W (fun x xs H Q => ∃ (a : Str) (i : Int), x = .str a ∧ xs = [.int i] ∧ PadOk i = true ∧ Q (.str (Txt.rjust a i)) H) rjust1F := by
  intro g H O R d ds v vs s sl σ Q h
  unfold rjust1F at h
  split at h
  · rename_i a i
    cases s
    obtain ⟨w, rfl, sy⟩ := shrL_one sl
    cases sy
    split at h
    · rename_i hc
      refine ⟨mkS a, i, rfl, rfl, hc, ?_⟩
      rw [rjust_L]
      exact Post.fin R rfl h
    · exact h.elim
  · exact h.elim
/-- int(s) -/
def intF : List D → Sto → ER := fun ds O => match ds with
  | [.str a] => if a.length ≤ 640 then (match PySem.intText? (mkS a) with | some n => .ok (.int n) O | none => .bad) else .bad
  | _ => .bad
theorem s_int : SatC C W (fun xs H Q => ∃ a n, xs = [.str a] ∧ PySem.intText? a = some n ∧ a.length ≤ 640 ∧ Q (.int n) H) intF := by
  intro g H O R ds vs s σ Q h
  unfold intF at h
  split at h
  · rename_i a
    obtain ⟨v, rfl, sv⟩ := shrL_one s
    cases sv
    split at h
    · rename_i hl
      split at h
      · rename_i n en
        exact ⟨mkS a, n, rfl, en, by rw [len_mkS]; exact hl, Post.fin R rfl h⟩
      · exact h.elim
    · exact h.elim
  · exact h.elim
theorem e_int (hm : X.mg "int" = none) (hg : Gl X "int") (ha : DA C X W (e :: es) fas)
    (he : starEach (e :: es) X.env = (false, eval e X.env) :: starEach es X.env := by rfl) (hpl : (backTo pos (starEach es X.env)).any (·.1) = false := by rfl) : DE C X W (.Call (.Name "int" p) (e :: es) [] pos) (callE intF fas) :=
  d_callTy (call_int_str (X := X)) s_int hg hm (by decide +kernel) ha (by decide) (by decide) he hpl
section
variable {fo : DE0}
theorem e_find2 (hK : X.K = C.K) (ho : DE C X W o fo) (ha : DA C X W [e, f] fas)
    (hbase : attributeBase o "find" X.env (eval o X.env) = eval o X.env := by rfl)
    (hfew : ((backTo cpos (starEach [e, f] X.env)).all (fun x => !x.1) && (backToKw cpos (keywordEach [] X.env)).all (fun x => x.1.isSome)
      && decide ([e, f].length + ([] : List Keyword).length + (if ([] : List Keyword).isEmpty then 0 else 1) < 30)) = true := by rfl)
    (hline : (apos.endLine == cpos.line) = true := by rfl) (hs : starEach [e, f] X.env = (false, eval e X.env) :: starEach [f] X.env := by rfl) (hplain : (backTo cpos (starEach [f] X.env)).any (·.1) = false := by rfl) :
    DE C X W (.Call (.Attribute o "find" apos) [e, f] [] cpos) (bmE tyStr find2F fo fas) :=
  d_bm hK PySem.F.plainAttrs_str PySem.F.slot_str_find PySem.F.type_str_find mt_find3 s_find2 ty_str ho ha hbase hfew hline hs hplain
theorem e_partition1 (hK : X.K = C.K) (ho : DE C X W o fo) (ha : DA C X W [e] fas)
    (hbase : attributeBase o "partition" X.env (eval o X.env) = eval o X.env := by rfl)
    (hfew : ((backTo cpos (starEach [e] X.env)).all (fun x => !x.1) && (backToKw cpos (keywordEach [] X.env)).all (fun x => x.1.isSome)
      && decide ([e].length + ([] : List Keyword).length + (if ([] : List Keyword).isEmpty then 0 else 1) < 30)) = true := by rfl)
    (hline : (apos.endLine == cpos.line) = true := by rfl) (hs : starEach [e] X.env = (false, eval e X.env) :: starEach [] X.env := by rfl) (hplain : (backTo cpos (starEach [] X.env)).any (·.1) = false := by rfl) :
    DE C X W (.Call (.Attribute o "partition" apos) [e] [] cpos) (bmE tyStr partition1F fo fas) :=
  d_bm hK PySem.F.plainAttrs_str PySem.F.slot_str_partition PySem.F.type_str_partition mt_partition s_partition1 ty_str ho ha hbase hfew hline hs hplain
theorem e_ljust1 (hK : X.K = C.K) (ho : DE C X W o fo) (ha : DA C X W [e] fas)
    (hbase : attributeBase o "ljust" X.env (eval o X.env) = eval o X.env := by rfl)
    (hfew : ((backTo cpos (starEach [e] X.env)).all (fun x => !x.1) && (backToKw cpos (keywordEach [] X.env)).all (fun x => x.1.isSome)
      && decide ([e].length + ([] : List Keyword).length + (if ([] : List Keyword).isEmpty then 0 else 1) < 30)) = true := by rfl)
    (hline : (apos.endLine == cpos.line) = true := by rfl) (hs : starEach [e] X.env = (false, eval e X.env) :: starEach [] X.env := by rfl) (hplain : (backTo cpos (starEach [] X.env)).any (·.1) = false := by rfl) :
    DE C X W (.Call (.Attribute o "ljust" apos) [e] [] cpos) (bmE tyStr ljust1F fo fas) :=
  d_bm hK PySem.F.plainAttrs_str PySem.F.slot_str_ljust PySem.F.type_str_ljust mt_ljust s_ljust1 ty_str ho ha hbase hfew hline hs hplain
theorem e_rjust1 (hK : X.K = C.K) (ho : DE C X W o fo) (ha : DA C X W [e] fas)
    (hbase : attributeBase o "rjust" X.env (eval o X.env) = eval o X.env := by rfl)
    (hfew : ((backTo cpos (starEach [e] X.env)).all (fun x => !x.1) && (backToKw cpos (keywordEach [] X.env)).all (fun x => x.1.isSome)
      && decide ([e].length + ([] : List Keyword).length + (if ([] : List Keyword).isEmpty then 0 else 1) < 30)) = true := by rfl)
    (hline : (apos.endLine == cpos.line) = true := by rfl) (hs : starEach [e] X.env = (false, eval e X.env) :: starEach [] X.env := by rfl) (hplain : (backTo cpos (starEach [] X.env)).any (·.1) = false := by rfl) :
    DE C X W (.Call (.Attribute o "rjust" apos) [e] [] cpos) (bmE tyStr rjust1F fo fas) :=
  d_bm hK PySem.F.plainAttrs_str PySem.F.slot_str_rjust PySem.F.type_str_rjust mt_rjust s_rjust1 ty_str ho ha hbase hfew hline hs hplain
end
end
end Dn
set_option Elab.async false
set_option linter.all false
set_option maxRecDepth 100000
set_option maxHeartbeats 2000000
namespace Dn
open PySem PySem.Spec PyProof.Rows L2
section
variable {C : Ctx} {X : Cx} {W : WX} {o e f a b : Expr} {es : List Expr} {fo fa fb : DE0} {fas : Rho → Sto → Res (List D)} {apos cpos p pos : Pos}
def pop0F : D → List D → Sto → ER := fun d ds O => match d, ds with
  | .ob l, [] => (match O[l]? with | some (.lst xs) => (match xs[xs.length - 1]? with | some y => .ok y (O.set l (.lst xs.dropLast)) | none => .bad) | _ => .bad)
  | _, _ => .bad
def popD (d k : D) (O : Sto) : ER := match dicOf d O, keyD k with
  | some (l, kvs), some k => (match getK kvs k with | some v => .ok v (O.set l (.dic (delK kvs k))) | none => .bad)
  | _, _ => .bad
def popE (fo fa : DE0) : DE0 := fun r O => (fo r O).bind fun d O1 => if tyDic d O1 then (fa r O1).bind fun k O2 => popD d k O2 else .bad
theorem e_dpop (ho : DE C X W o fo) (ha : DE C X W e fa) (m : M1 X o "pop" apos e cpos := by exact ⟨rfl, rfl, rfl, rfl⟩) :
    DE C X W (.Call (.Attribute o "pop" apos) [e] [] cpos) (popE fo fa) :=
  let ⟨_, po, so⟩ := ho.ex; let ⟨_, pa, sa⟩ := ha.ex
  ⟨_, pe_dpop1 po pa m, fun g σ H r O R S Q h => so.seq R S h fun d O1 v g1 H1 e1 R1 S1 s1 h1 => by
    split at h1
    · rename_i hy
      unfold tyDic at hy
      cases q : dicOf d O1 with
      | none => rw [q] at hy; cases hy
      | some lk =>
        obtain ⟨l, kvs⟩ := lk
        obtain ⟨rfl, _, _, ws, h2, _⟩ := dicOf_of R1 s1 q
        refine ⟨_, rfl, .inl ⟨ws, .inl h2⟩, sa.seq R1 S1 h1 fun k O2 kv g2 H2 e2 R2 S2 s2 h4 => ?_⟩
        have h4 : Post C W σ g2 H2 (popD d k O2) Q := h4
        unfold popD at h4
        split at h4
        · rename_i l' kvs' k' eq1 eq2
          have sd := s1.mono e2.le
          obtain ⟨hv, hl', _, ws', h5, h6⟩ := dicOf_of R2 sd eq1
          have hkk := keyD_of s2 eq2
          subst hkk
          obtain ⟨a1, a2⟩ := shrK_get (k := k') h6
          split at h4
          · rename_i y z
            obtain ⟨u, b1, b2⟩ := a1 y z
            have ha : g1.θ l = g2.θ l' := by injection hv
            refine ⟨ws', kD k', u, by rw [ha]; exact h5, rfl, b1, ?_⟩
            rw [ha]
            exact h4 u g2 _ (Ext.set R2 hl') (R2.set hl' ⟨_, upd_same, shrK_del h6⟩) b2
          · exact h4.elim
        · exact h4.elim
    · exact h1.elim⟩
end
end Dn
set_option Elab.async false
set_option linter.all false
set_option maxRecDepth 100000
set_option maxHeartbeats 4000000
namespace Dn
open PySem PySem.Spec PyProof.Rows L2
section
variable {C : Ctx} {X : Cx} {W : WX}
variable {a b : Expr} {fa fb : DE0} {pos : Pos}
end
end Dn
set_option Elab.async false
set_option linter.all false
set_option maxRecDepth 100000
set_option maxHeartbeats 4000000
namespace Dn
open PySem PySem.Spec PyProof.Rows L2
section
variable {C : Ctx} {X : Cx} {W : WX}
theorem CallR.or {v : Value} {r r' : List V → Hp → VK → Prop} (h : CallR X v r) (h' : CallR X v r') : CallR X v (fun xs H Q => r xs H Q ∨ r' xs H Q) :=
  fun pins s σ H xs us Q I rs q => q.elim (h pins s σ H xs us Q I rs) (h' pins s σ H xs us Q I rs)
def intsD : List D → Option (List Int)
  | [] => some []
  | .int i :: ds => (intsD ds).map (i :: ·)
  | _ :: _ => none
theorem shrL_intsD {K : PySem.W.Frag} {g : G} : ∀ {ds : List D} {ns : List Int} {vs : List V}, intsD ds = some ns → ShrL K g ds vs → vs = ns.map V.int
  | [], ns, vs, e, s => by simp [intsD] at e; subst e; simp only [ShrL] at s; rw [s]; rfl
  | d :: ds, ns, vs, e, s => by
    cases d with
    | int i =>
      simp only [intsD, Option.map_eq_some_iff] at e
      obtain ⟨ms, e1, rfl⟩ := e
      simp only [ShrL] at s
      obtain ⟨v, q, rfl, sv, sq⟩ := s
      cases sv
      rw [shrL_intsD e1 sq]; rfl
    | _ => simp [intsD] at e
theorem intsD_map : ∀ ns : List Int, intsD (ns.map D.int) = some ns
  | [] => rfl
  | n :: ns => by simp [intsD, intsD_map ns]
variable {e : Expr} {es : List Expr} {fas : Rho → Sto → Res (List D)} {p pos : Pos}
theorem ltCps_eq : ∀ a b : List Nat, ltCps a b = decide (a < b)
  | [], [] => by simp [ltCps]
  | [], _ :: _ => by simp [ltCps]
  | _ :: _, [] => by simp [ltCps]
  | a :: r, b :: t => by
    rw [StrLaws.lt_cons_cons, ltCps, ltCps_eq r t]
def leS (a b : List Nat) : Bool := !ltCps b a
theorem leS_iff (a b : List Nat) : leS a b = true ↔ a ≤ b := by
  unfold leS
  rw [ltCps_eq]
  simp
theorem leS_trans (a b c : List Nat) (h : leS a b = true) (k : leS b c = true) : leS a c = true := by
  rw [leS_iff] at *
  exact List.le_trans h k
theorem leS_total (a b : List Nat) : (leS a b || leS b a) = true := by
  rw [Bool.or_eq_true, leS_iff, leS_iff]
  exact List.le_total a b
theorem leS_anti (a b : List Nat) (h : leS a b = true) (k : leS b a = true) : a = b := by
  rw [leS_iff] at *
  exact List.le_antisymm h k
def sortS (l : List (List Nat)) : List (List Nat) := l.mergeSort leS
theorem risingS_pw : ∀ (r : List Str) (p : Str), risingS p r = true → (∀ x ∈ r, leS p.cps.toList x.cps.toList = true) ∧ r.Pairwise (fun a b => leS a.cps.toList b.cps.toList = true)
  | [], p, _ => ⟨fun _ h => (nomatch h), List.Pairwise.nil⟩
  | x :: r, p, h => by
    simp only [risingS, Bool.and_eq_true] at h
    obtain ⟨h1, h2⟩ := risingS_pw r x h.2
    have h0 : leS p.cps.toList x.cps.toList = true := h.1
    refine ⟨fun y hy => ?_, List.Pairwise.cons h1 h2⟩
    rcases List.mem_cons.mp hy with rfl | hy
    · exact h0
    · exact leS_trans _ _ _ h0 (h1 y hy)
theorem sortedS_pw {ys : List Str} (h : sortedS ys = true) : ys.Pairwise (fun a b => leS a.cps.toList b.cps.toList = true) := by
  cases ys with
  | nil => exact .nil
  | cons x r => exact List.Pairwise.cons (risingS_pw r x h).1 (risingS_pw r x h).2
theorem sortS_is {ys : List Str} {xs : List (List Nat)} (hp : ys.Perm (xs.map mkS)) (hs : sortedS ys = true) : ys = (sortS xs).map mkS := by
  have h1 : (ys.map TL.tl).Perm xs := by
    have := hp.map TL.tl
    rw [map_tl_mkS] at this
    exact this
  have h2 : (ys.map TL.tl).Pairwise (fun a b => leS a b = true) := by
    rw [List.pairwise_map]; exact sortedS_pw hs
  have h3 : (sortS xs).Pairwise (fun a b => leS a b = true) := List.pairwise_mergeSort leS_trans leS_total xs
  have h4 : ys.map TL.tl = sortS xs := List.Perm.eq_of_pairwise (fun a b _ _ => leS_anti a b) h2 h3 (h1.trans (List.mergeSort_perm _ _).symm)
  refine TL.map_tl_inj ?_
  rw [h4, map_tl_mkS]
def sortI (l : List Int) : List Int := l.mergeSort fun a b => decide (a ≤ b)
theorem sortI_is {ys xs : List Int} (hp : ys.Perm xs) (hs : ys.Pairwise (· ≤ ·)) : ys = sortI xs := by
  have h3 : (sortI xs).Pairwise (fun a b => decide (a ≤ b) = true) := List.pairwise_mergeSort (fun a b c h k => by simp at *; omega) (fun a b => by simp; omega) xs
  refine List.Perm.eq_of_pairwise (le := fun a b => a ≤ b) (fun a b _ _ h k => by omega) hs (h3.imp fun h => by simpa using h) (hp.trans (List.mergeSort_perm _ _).symm)
/-- tuples of whole numbers, below 2^40 -/
abbrev bigB : Int := 1099511627776
def tupsD (d : Nat) : List D → Option (List (List Int))
  | [] => some []
  | .tup xs :: ds => match intsD xs with
    | some ns => if decide (ns.length = d) && ns.all (fun n => decide (0 ≤ n) && decide (n < bigB)) then (tupsD d ds).map (ns :: ·) else none
    | none => none
  | _ :: _ => none
def leT (a b : List Int) : Bool := decide (TS.code bigB a ≤ TS.code bigB b)
def sortT (l : List (List Int)) : List (List Int) := l.mergeSort leT
theorem code_inj' : ∀ {a b : List Int}, a.length = b.length → TS.Bd bigB a → TS.Bd bigB b → TS.code bigB a = TS.code bigB b → a = b
  | [], [], _, _, _, _ => rfl
  | [], _ :: _, h, _, _, _ => by simp at h
  | _ :: _, [], h, _, _, _ => by simp at h
  | x :: a, y :: b, h, h1, h2, e => by
    have hl : a.length = b.length := by simpa using h
    have hxy : x = y := by
      rcases Int.lt_trichotomy x y with q | q | q
      · have := TS.code_lt hl h1.tail h2.tail q; omega
      · exact q
      · have := TS.code_lt hl.symm h2.tail h1.tail q; omega
    subst hxy
    have e' : TS.code bigB a = TS.code bigB b := by
      have e1 : x * bigB ^ a.length + TS.code bigB a = x * bigB ^ b.length + TS.code bigB b := e
      rw [hl] at e1
      omega
    rw [code_inj' hl h1.tail h2.tail e']
theorem tupsD_spec {d : Nat} : ∀ {ds : List D} {L : List (List Int)}, tupsD d ds = some L → ds = L.map (fun ns => D.tup (ns.map D.int)) ∧ ∀ ns ∈ L, ns.length = d ∧ TS.Bd bigB ns
  | [], L, h => by simp [tupsD] at h; subst h; exact ⟨rfl, fun _ h => nomatch h⟩
  | e :: ds, L, h => by
    cases e with
    | tup xs =>
      simp only [tupsD] at h
      split at h
      · rename_i ns en
        split at h
        · rename_i hc
          simp only [Option.map_eq_some_iff] at h
          obtain ⟨L', h1, rfl⟩ := h
          obtain ⟨r1, r2⟩ := tupsD_spec h1
          have hx : xs = ns.map D.int := by
            have : ∀ (xs : List D) (ns : List Int), intsD xs = some ns → xs = ns.map D.int := by
              intro xs
              induction xs with
              | nil => intro ns h; simp [intsD] at h; subst h; rfl
              | cons a xs ih =>
                intro ns h
                cases a with
                | int i =>
                  simp only [intsD, Option.map_eq_some_iff] at h
                  obtain ⟨ms, h2, rfl⟩ := h
                  rw [ih ms h2]; rfl
                | _ => simp [intsD] at h
            exact this xs ns en
          simp only [Bool.and_eq_true, decide_eq_true_eq, List.all_eq_true] at hc
          refine ⟨by rw [r1, hx]; rfl, fun m hm => ?_⟩
          rcases List.mem_cons.mp hm with rfl | hm
          · exact ⟨hc.1, hc.2⟩
          · exact r2 m hm
        · cases h
      · cases h
    | _ => simp [tupsD] at h
theorem shrL_perm {K : PySem.W.Frag} {g : G} {vs ws : List V} (hp : ws.Perm vs) : ∀ {ds : List D}, ShrL K g ds vs → ∃ es, es.Perm ds ∧ ShrL K g es ws := by
  induction hp with
  | nil => intro ds h; exact ⟨ds, List.Perm.refl _, h⟩
  | cons x p ih =>
    intro ds h
    cases ds with
    | nil => simp [ShrL] at h
    | cons d ds =>
      simp only [ShrL] at h
      obtain ⟨v, r, e, h2, h3⟩ := h
      cases e
      obtain ⟨es, i1, i2⟩ := ih h3
      exact ⟨d :: es, i1.cons d, by simp only [ShrL]; exact ⟨_, _, rfl, h2, i2⟩⟩
  | swap x y l =>
    intro ds h
    match ds, h with
    | [], h => simp [ShrL] at h
    | [_], h => simp [ShrL] at h
    | d1 :: d2 :: ds, h =>
      simp only [ShrL] at h
      obtain ⟨v, r, e, h2, v2, r2, e2, h4, h5⟩ := h
      cases e; cases e2
      exact ⟨d2 :: d1 :: ds, List.Perm.swap _ _ _, by simp only [ShrL]; exact ⟨_, _, rfl, h4, _, _, rfl, h2, h5⟩⟩
  | trans p q ih1 ih2 =>
    intro ds h
    obtain ⟨es, a1, a2⟩ := ih2 h
    obtain ⟨fs, b1, b2⟩ := ih1 a2
    exact ⟨fs, b1.trans a1, b2⟩
theorem perm_map_inv {α β : Type} {f : α → β} {es xs : List β} (hp : es.Perm xs) : ∀ {L : List α}, xs = L.map f → ∃ L' : List α, es = L'.map f ∧ L'.Perm L := by
  induction hp with
  | nil => intro L h; exact ⟨L, h, List.Perm.refl _⟩
  | cons x p ih =>
    intro L h
    cases L with
    | nil => cases h
    | cons a L =>
      rw [List.map_cons] at h
      injection h with h1 h2
      obtain ⟨L', e, q⟩ := ih h2
      exact ⟨a :: L', by rw [List.map_cons, h1, e], q.cons a⟩
  | swap x y l =>
    intro L h
    match L, h with
    | [], h => cases h
    | [_], h => simp at h
    | a :: b :: L, h =>
      simp only [List.map_cons] at h
      injection h with h1 h2
      injection h2 with h2 h3
      exact ⟨b :: a :: L, by simp only [List.map_cons]; rw [h1, h2, h3], List.Perm.swap _ _ _⟩
  | trans p q ih1 ih2 =>
    intro L h
    obtain ⟨L1, e1, q1⟩ := ih2 h
    obtain ⟨L2, e2, q2⟩ := ih1 e1
    exact ⟨L2, e2, q2.trans q1⟩
/-- a dict's keys -/
def strKeys : List (DKey × D) → Option (List (List Nat))
  | [] => some []
  | (.inr x, _) :: r => (strKeys r).map (x :: ·)
  | _ :: _ => none
def intKeys : List (DKey × D) → Option (List Int)
  | [] => some []
  | (.inl x, _) :: r => (intKeys r).map (x :: ·)
  | _ :: _ => none
theorem shrK_strKeys {K : PySem.W.Frag} {g : G} : ∀ {kvs : List (DKey × D)} {ks : List (List Nat)} {vs : List (Key × V)}, strKeys kvs = some ks → ShrK K g kvs vs → vs.map (·.1) = (ks.map mkS).map Sum.inr
  | [], ks, vs, e, s => by simp [strKeys] at e; subst e; simp only [ShrK] at s; rw [s]; rfl
  | (k, d) :: r, ks, vs, e, s => by
    cases k with
    | inr x =>
      simp only [strKeys, Option.map_eq_some_iff] at e
      obtain ⟨ms, e1, rfl⟩ := e
      simp only [ShrK] at s
      obtain ⟨v, q, rfl, sv, sq⟩ := s
      rw [List.map_cons, shrK_strKeys e1 sq]; rfl
    | inl x => simp [strKeys] at e
theorem shrK_intKeys {K : PySem.W.Frag} {g : G} : ∀ {kvs : List (DKey × D)} {ks : List Int} {vs : List (Key × V)}, intKeys kvs = some ks → ShrK K g kvs vs → vs.map (·.1) = ks.map Sum.inl
  | [], ks, vs, e, s => by simp [intKeys] at e; subst e; simp only [ShrK] at s; rw [s]; rfl
  | (k, d) :: r, ks, vs, e, s => by
    cases k with
    | inl x =>
      simp only [intKeys, Option.map_eq_some_iff] at e
      obtain ⟨ms, e1, rfl⟩ := e
      simp only [ShrK] at s
      obtain ⟨v, q, rfl, sv, sq⟩ := s
      rw [List.map_cons, shrK_intKeys e1 sq]; rfl
    | inr x => simp [intKeys] at e
def tlen : List D → Nat
  | .tup xs :: _ => xs.length
  | _ => 0
def sortedF (m : Bool) : List D → Sto → ER := fun ds O => match ds with
  | [d] => (match dicOf d O with
    | some (_, kvs) => (match strKeys kvs with
      | some ks => if ks.length < 64 then mkL m ((sortS ks).map D.str) O else .bad
      | none => match intKeys kvs with
        | some ks => if ks.length < 64 then mkL m ((sortI ks).map D.int) O else .bad
        | none => .bad)
    | none => match listR d O with
      | some xs => (match strsD xs with
        | some ys => if ys.length < 64 then mkL m ((sortS ys).map D.str) O else .bad
        | none => match intsD xs with
          | some ns => mkL m ((sortI ns).map D.int) O
          | none => match tupsD (tlen xs) xs with
            | some L => if decide (L.length < 64) && decide (1 ≤ tlen xs) then mkL m ((sortT L).map fun ns => D.tup (ns.map D.int)) O else .bad
            | none => .bad)
      | none => .bad)
  | _ => .bad
def rSrtD : List V → Hp → VK → Prop := fun xs H Q => ∃ (a : Addr) (kvs : List (Key × V)) (ks : List Str), xs = [.ref a] ∧ Rd H a (.dK kvs) ∧ kvs.map (·.1) = ks.map Sum.inr ∧ ks.length < 64 ∧ ∀ ys p, ys.Perm ks → sortedS ys = true → H p = none → Q (.ref p) (upd H p (.lst (ys.map V.str)))
def rSrtDI : List V → Hp → VK → Prop := fun xs H Q => ∃ (a : Addr) (kvs : List (Key × V)) (ks : List Int), xs = [.ref a] ∧ Rd H a (.dK kvs) ∧ kvs.map (·.1) = ks.map Sum.inl ∧ ks.length < 64 ∧ ∀ (ys : List Int) (p : Addr), ys.Perm ks → ys.Pairwise (· ≤ ·) → H p = none → Q (.ref p) (upd H p (.lst (ys.map V.int)))
def rSrt (K : PySem.W.Frag) : List V → Hp → VK → Prop := fun xs H Q => rSrtD xs H Q ∨ rSrtDI xs H Q ∨ rSortedS K xs H Q ∨ rSortedI K xs H Q ∨ ∃ d : Nat, 1 ≤ d ∧ rSortU K d bigB xs H Q
theorem call_srt (hc : X.calm = true) : CallR X (.builtin "sorted") (rSrt X.K) :=
  CallR.or (call_sortedD hc) (CallR.or (call_sortedDI hc) (CallR.or cr_sortedS (CallR.or cr_sortedI fun pins s σ H xs us Q I rs ⟨d, hd, q⟩ => cr_sortT (B := bigB) hd pins s σ H xs us Q I rs q)))
theorem s_sorted (m : Bool) : SatC C W (rSrt C.K) (sortedF m) := by
  intro g H O R ds vs s σ Q h
  unfold sortedF at h
  split at h
  · rename_i d
    obtain ⟨v, rfl, sv⟩ := shrL_one s
    split at h
    · rename_i l kvs eq
      obtain ⟨rfl, _, _, ws, h2, h3⟩ := dicOf_of R sv eq
      split at h
      · rename_i ks ek
        split at h
        · rename_i hz
          refine .inl ⟨_, ws, ks.map mkS, rfl, .inl h2, shrK_strKeys ek h3, by simpa using hz, fun ys p hp hs hn => ?_⟩
          rw [sortS_is hp hs]
          exact new_lst R (strs_shrL _) h hn
        · exact h.elim
      · split at h
        · rename_i ks ek
          split at h
          · rename_i hz
            refine .inr (.inl ⟨_, ws, ks, rfl, .inl h2, shrK_intKeys ek h3, hz, fun ys p hp hs hn => ?_⟩)
            rw [sortI_is hp hs]
            exact new_lst R (shrL_ints _) h hn
          · exact h.elim
        · exact h.elim
    · split at h
      · rename_i xs ex
        obtain ⟨a, ws, rfl, h1, h2⟩ := listR_of R sv ex
        split at h
        · rename_i ys ey
          split at h
          · rename_i hz
            have hw := shrL_strs ey h2
            subst hw
            refine .inr (.inr (.inl ⟨a, ys.map mkS, rfl, h1, by simpa using hz, fun zs p hp hs hn => ?_⟩))
            rw [sortS_is hp hs]
            exact new_lst R (strs_shrL _) h hn
          · exact h.elim
        · split at h
          · rename_i ns en
            have hw := shrL_intsD en h2
            subst hw
            refine .inr (.inr (.inr (.inl ⟨a, ns, rfl, h1, fun zs p hp hs hn => ?_⟩)))
            rw [sortI_is hp hs]
            exact new_lst R (shrL_ints _) h hn
          · split at h
            · rename_i L eL
              split at h
              · rename_i hz
                simp only [Bool.and_eq_true, decide_eq_true_eq] at hz
                obtain ⟨r1, r2⟩ := tupsD_spec eL
                have hl : ws.length = L.length := by rw [shrL_len h2, r1]; simp
                have tupI : ∀ {ns : List Int} {w : V}, Shr C.K g (.tup (ns.map D.int)) w → TupI C.K H w ns := fun {ns w} hw => by
                  simp only [Shr] at hw
                  obtain ⟨b, us, rfl, k2, k3⟩ := hw
                  have := shrL_intsD (intsD_map ns) k3
                  subst this
                  exact ⟨b, rfl, ex_t R.F k2⟩
                refine .inr (.inr (.inr (.inr ⟨tlen xs, hz.2, a, ws, rfl, h1, by rw [hl]; exact hz.1, ?_, fun us p hp hs hn => ?_⟩)))
                · have : ∀ d ∈ xs, ∃ ns ∈ L, d = D.tup (ns.map D.int) := by
                    rw [r1]
                    intro d hd
                    obtain ⟨ns, hn, rfl⟩ := List.mem_map.mp hd
                    exact ⟨ns, hn, rfl⟩
                  exact shrL_mem h2 (P := fun d => ∃ ns ∈ L, d = D.tup (ns.map D.int)) (Q := fun w => ∃ ns, TupI C.K H w ns ∧ ns.length = tlen xs ∧ TS.Bd bigB ns) (fun d w _ sw ⟨ns, hn, e⟩ => by
                    subst e
                    exact ⟨ns, tupI sw, r2 ns hn⟩) this
                · obtain ⟨es, p1, p2⟩ := shrL_perm hp h2
                  -- what is listed is tuples again
                  have hes : ∃ L' : List (List Int), es = L'.map (fun ns => D.tup (ns.map D.int)) ∧ L'.Perm L := by
                    rw [r1] at p1
                    exact perm_map_inv p1 rfl
                  obtain ⟨L', rfl, pL⟩ := hes
                  have hpw : L'.Pairwise (fun a b => leT a b = true) := by
                    have gen : ∀ (L' : List (List Int)) (us : List V), ShrL C.K g (L'.map fun ns => D.tup (ns.map D.int)) us → us.Pairwise (fun x y => ∀ n m, TupI C.K H x n → TupI C.K H y m → TS.code bigB n ≤ TS.code bigB m) → L'.Pairwise (fun a b => leT a b = true) := by
                      intro L'
                      induction L' with
                      | nil => intros; exact .nil
                      | cons a L' ih =>
                        intro us hu pw
                        simp only [List.map_cons, ShrL] at hu
                        obtain ⟨w, r, rfl, sw, sr⟩ := hu
                        cases pw with
                        | cons q1 q2 =>
                          refine .cons (fun b hb => ?_) (ih r sr q2)
                          obtain ⟨i, hi⟩ := List.getElem?_of_mem hb
                          obtain ⟨u, e1, e2⟩ := shrL_get sr (i := i) (d := .tup (b.map D.int)) (by rw [List.getElem?_map, hi]; rfl)
                          exact decide_eq_true (q1 u (List.mem_of_getElem? e1) a b (tupI sw) (tupI e2))
                    exact gen L' us p2 hs
                  have hsame : L' = sortT L := by
                    have h3 : (sortT L).Pairwise (fun a b => leT a b = true) := List.pairwise_mergeSort (fun a b c h k => by simp [leT] at *; omega) (fun a b => by simp [leT]; omega) L
                    refine List.Perm.eq_of_pairwise (fun a b ha hb q1 q2 => ?_) hpw h3 (pL.trans (List.mergeSort_perm _ _).symm)
                    have ha' := r2 a (pL.subset ha)
                    have hb' := r2 b ((List.mergeSort_perm _ _).subset hb)
                    simp only [leT, decide_eq_true_eq] at q1 q2
                    exact code_inj' (ha'.1.trans hb'.1.symm) ha'.2 hb'.2 (Int.le_antisymm q1 q2)
                  subst hsame
                  exact new_lst R p2 h hn
              · exact h.elim
            · exact h.elim
      · exact h.elim
  · exact h.elim
theorem e_sorted (m : Bool) (hK : X.K = C.K) (hc : X.calm = true) (hm : X.mg "sorted" = none) (hg : Gl X "sorted") (ha : DA C X W (e :: es) fas)
    (he : starEach (e :: es) X.env = (false, eval e X.env) :: starEach es X.env := by rfl) (hpl : (backTo pos (starEach es X.env)).any (·.1) = false := by rfl) : DE C X W (.Call (.Name "sorted" p) (e :: es) [] pos) (callE (sortedF m) fas) :=
  d_callB (call_srt hc) (by rw [hK]; exact s_sorted m) hg hm (by decide +kernel) ha (by decide) (by decide) he hpl
end
end Dn
set_option Elab.async false
set_option linter.all false
set_option maxRecDepth 100000
set_option maxHeartbeats 4000000
namespace Dn
open PySem PySem.Spec PyProof.Rows L2
section
variable {C : Ctx} {X : Cx} {W : WX} {o e f x : Expr} {fo fa fb : DE0} {p apos cpos pos pos' : Pos}
def tryS2 (i j : Nat) (f h1 h2 : DS0) : DS0 := fun r O => match f r O with
  | .exc e r1 O1 => if e.cls = i then (match h1 r1 O1 with | .exc _ _ _ => .bad | y => y) else if e.cls = j then (match h2 r1 O1 with | .exc _ _ _ => .bad | y => y) else .exc e r1 O1
  | y => y
theorem suite_post {g g' : G} {H H' : Hp} {r1 : Rho} {O1 : Sto} {h : DS0} {E : Ends} (ex : Ext g H g' H') (R' : RepO C g' H' O1) {σ' : L2.St} (S' : RepS C g' σ' r1)
    (q : PostS C W g H (match h r1 O1 with | .exc _ _ _ => .bad | y => y) E) : tOf C noW h E σ' H' := by
  refine ⟨g', r1, O1, R', S', ?_⟩
  cases y : h r1 O1 with
  | exc _ _ _ => rw [y] at q; exact q.elim
  | nx _ _ => rw [y] at q; exact PostS.shift (x := .nx _ _) ex q
  | ret _ _ => rw [y] at q; exact PostS.shift (x := .ret _ _) ex q
  | bk _ _ => rw [y] at q; exact PostS.shift (x := .bk _ _) ex q
  | ct _ _ => rw [y] at q; exact PostS.shift (x := .ct _ _) ex q
  | bad => rw [y] at q; exact q
theorem s_try2 (i j : Nat) {x1 x2 : Str} {c1 c2 : Value} {n1 n2 p1 p2 : Pos} {b1 b2 : Stmt} {body su1 su2 : List Stmt} {f h1 h2 : DS0} (hs : X.stack = X.env :: X.outer) (hf : X.env.frame = some X.env.locals) (hK : X.K = C.K) (hc1 : Names X x1 c1) (hc2 : Names X x2 c2) (tk : Takes X W)
    (hm1 : ∀ k A', C.ec k = some A' → PySem.W.exmOne C.K (.ref A') c1 = some (decide (k = i)))
    (hm2 : ∀ k A', C.ec k = some A' → PySem.W.exmOne C.K (.ref A') c2 = some (decide (k = j)))
    (hb : ∀ (W' : WX) (pn : List (Addr × Obj)) (xe : Value → Shared → Prop), Takes (X.tr pn xe) W' → PassesOwn (model X.prog X.w) X.A X.env xe → DSs C (X.tr pn xe) W' body f)
    (hsu1 : ∀ (a : Addr) (pn : List (Addr × Obj)), DSs C (X.suite a pn) noW (b1 :: su1) h1)
    (hsu2 : ∀ (a : Addr) (pn : List (Addr × Obj)), DSs C (X.suite a pn) noW (b2 :: su2) h2) :
    DS C X W (.Try body [.ExceptHandler (some (.Name x1 n1)) none (b1 :: su1) p1, .ExceptHandler (some (.Name x2 n2)) none (b2 :: su2) p2] [] [] pos) (tryS2 i j f h1 h2) :=
  ⟨_, ps_try_many (tb := fun W' => tOf C W' f) (l := [(c1, fun _ _ _ => tOf C noW h1), (c2, fun _ _ _ => tOf C noW h2)]) (Wout := W) hs hf tk (fun W' pn xe t p => pss_of (hb W' pn xe t p))
    (.cons hc1 (fun a oe cls d pn _ _ => pss_of (hsu1 a _)) (.cons hc2 (fun a oe cls d pn _ _ => pss_of (hsu2 a _)) .nil)), fun g σ H r O R S E q => by
    refine ⟨g, r, O, R, S, ?_⟩
    unfold tryS2 at q
    cases z : f r O with
    | nx r1 O1 => rw [z] at q; exact q
    | ret d O1 => rw [z] at q; exact q
    | bk r1 O1 => rw [z] at q; exact q
    | ct r1 O1 => rw [z] at q; exact q
    | bad => rw [z] at q; exact q
    | exc e r1 O1 =>
      rw [z] at q
      intro cv dx σ' g' H' ex R' S' er
      obtain ⟨A', k1, rfl, k3⟩ := id er
      dsimp only at q
      refine ⟨decide (e.cls = i), by rw [hK]; exact hm1 _ _ k1, fun hb a _ => ?_, fun hb => ⟨decide (e.cls = j), by rw [hK]; exact hm2 _ _ k1, fun hb2 a _ => ?_, fun hb2 => ?_⟩⟩
      · simp only [decide_eq_true_eq] at hb
        rw [if_pos hb] at q
        exact suite_post ex R' S' q
      · simp only [decide_eq_false_iff_not] at hb
        simp only [decide_eq_true_eq] at hb2
        rw [if_neg hb, if_pos hb2] at q
        exact suite_post ex R' S' q
      · simp only [decide_eq_false_iff_not] at hb hb2
        rw [if_neg hb, if_neg hb2] at q
        exact q _ _ _ _ _ ex R' S' er⟩
def ShrPP (K : PySem.W.Frag) (g : G) : List (D × D) → List (V × V) → Prop
  | [], vs => vs = []
  | p :: ps, vs => ∃ v w r, vs = (v, w) :: r ∧ Shr K g p.1 v ∧ Shr K g p.2 w ∧ ShrPP K g ps r
theorem ShrPP.mono {K : PySem.W.Frag} {g g' : G} (e : GLe g g') : ∀ (ps : List (D × D)) (vs : List (V × V)), ShrPP K g ps vs → ShrPP K g' ps vs
  | [], _, h => h
  | p :: ps, vs, ⟨v, w, r, h1, h2, h3, h4⟩ => ⟨v, w, r, h1, Shr.mono e _ _ h2, Shr.mono e _ _ h3, ShrPP.mono e ps r h4⟩
instance : Rel (List (D × D)) (List (V × V)) := ⟨fun C => ShrPP C.K, fun e h => ShrPP.mono e _ _ h⟩
abbrev DP0 := Rho → Sto → Res (List (D × D))
structure DPs (C : Ctx) (X : Cx) (W : WX) (pos : Pos) (ks : List (Option Expr)) (vs : List Expr) (f : DP0) : Prop where
  ex : ∃ trs, PPs X pos ks vs trs ∧ Sat C W (tPairs trs) f
def nilP : DP0 := fun _ O => .ok [] O
def consP (fk fv : DE0) (rest : DP0) : DP0 := fun r O => (fk r O).bind fun k O1 => (fv r O1).bind fun v O2 => (rest r O2).bind fun ps O3 => .ok ((k, v) :: ps) O3
theorem p_nil : DPs C X W pos [] [] nilP := ⟨_, pps_nil, fun g σ H r O R S Q h => Post.fin (v := []) R (show ShrPP _ _ [] [] from rfl) h⟩
theorem p_cons {k v : Expr} {ks : List (Option Expr)} {vs : List Expr} {fk fv : DE0} {rest : DP0} (hk : DE C X W k fk) (hv : DE C X W v fv) (hr : DPs C X W pos ks vs rest) : DPs C X W pos (some k :: ks) (v :: vs) (consP fk fv rest) :=
  let ⟨_, pk, sk⟩ := hk.ex; let ⟨_, pv, sv⟩ := hv.ex; let ⟨_, pr, sr⟩ := hr.ex
  ⟨_, pps_cons pk pv pr, fun g σ H r O R S Q h => sk.seq R S h fun a O1 va g1 H1 e1 R1 S1 s1 h1 => sv.seq R1 S1 h1 fun b O2 vb g2 H2 e2 R2 S2 s2 h2 =>
    sr.seq R2 S2 h2 fun ps O3 vps g3 H3 e3 R3 S3 s3 h3 => Post.fin (v := (va, vb) :: vps) R3 (show ShrPP _ _ ((a, b) :: ps) _ from ⟨va, vb, vps, rfl, (Shr.mono e2.le _ _ s1 |>.mono e3.le), Shr.mono e3.le _ _ s2, s3⟩) h3⟩
def keysD : List (D × D) → Option (List (DKey × D))
  | [] => some []
  | (k, v) :: ps => match keyD k with | some k => (keysD ps).map ((k, v) :: ·) | none => none
def mergeD (acc kvs : List (DKey × D)) : List (DKey × D) := kvs.foldl (fun acc kv => putD acc kv.1 kv.2) acc
theorem keysD_of {K : PySem.W.Frag} {g : G} : ∀ {ps : List (D × D)} {kvs : List (DKey × D)} {vs : List (V × V)}, keysD ps = some kvs → ShrPP K g ps vs → ∃ ws, vs = ws.map (fun kv => (kV kv.1, kv.2)) ∧ ShrK K g kvs ws
  | [], kvs, vs, h, s => by simp [keysD] at h; subst h; exact ⟨[], s, by simp [ShrK]⟩
  | (k, v) :: ps, kvs, vs, h, s => by
    simp only [keysD] at h
    split at h
    · rename_i k' ek
      simp only [Option.map_eq_some_iff] at h
      obtain ⟨kvs', h1, rfl⟩ := h
      obtain ⟨a, b, r, rfl, s1, s2, s3⟩ := s
      obtain ⟨ws, rfl, h3⟩ := keysD_of h1 s3
      have := keyD_of s1 ek
      subst this
      exact ⟨(kD k', b) :: ws, rfl, by simp only [ShrK]; exact ⟨b, ws, rfl, s2, h3⟩⟩
    · cases h
theorem mergeD_of {K : PySem.W.Frag} {g : G} : ∀ {kvs : List (DKey × D)} {ws : List (Key × V)} {acc : List (DKey × D)} {as : List (Key × V)}, ShrK K g kvs ws → ShrK K g acc as → ShrK K g (mergeD acc kvs) (mergeK as ws)
  | [], ws, acc, as, h, k => by simp only [ShrK] at h; subst h; exact k
  | p :: kvs, ws, acc, as, h, k => by
    simp only [ShrK] at h
    obtain ⟨v, r, rfl, h2, h3⟩ := h
    exact mergeD_of (acc := putD acc p.1 p.2) (as := putK as (kD p.1) v) h3 (shrK_put h2 k)
def isDic0 (c : Option Cell) : Bool := match c with | some (.dic []) => true | _ => false
def dicE (f : DP0) : DE0 := fun r O => (f r (O ++ [.dic []])).bind fun ps O1 => match keysD ps with
  | some kvs => if decide (ps.length ≤ 15) && isDic0 O1[O.length]? then .ok (.ob O.length) (O1.set O.length (.dic (mergeD [] kvs))) else .bad
  | none => .bad
theorem keysD_len : ∀ {ps : List (D × D)} {kvs : List (DKey × D)}, keysD ps = some kvs → kvs.length = ps.length
  | [], kvs, h => by simp [keysD] at h; subst h; rfl
  | (k, v) :: ps, kvs, h => by
    simp only [keysD] at h
    split at h
    · simp only [Option.map_eq_some_iff] at h
      obtain ⟨kvs', h1, rfl⟩ := h
      simp [keysD_len h1]
    · cases h
theorem d_dict {keys : List (Option Expr)} {values : List Expr} {fp : DP0} (h : DPs C X W pos keys values fp) (hall : keys.all (·.isSome) = true := by rfl) (hl : keys.length = values.length := by rfl) (h0 : keys ≠ [] := by exact fun z => nomatch z) (h15 : keys.length ≤ 15 := by decide) :
    DE C X W (.Dict keys values pos) (dicE fp) :=
  let ⟨_, pp, sp⟩ := h.ex
  ⟨_, pe_disp pp hall hl h0 h15, fun g σ H r O R S Q q => fun p hp => by
    have hk : ∀ a o, H a = some o → upd H p (.dK []) a = some o := fun a o e => by rw [upd_ne (ne_of_none e hp)]; exact e
    have e0 := Ext.add R hp hk
    have R1 := R.add (c := .dic []) hp hk ⟨[], upd_same, by simp [ShrK]⟩
    have q1 := Post.shift e0 q
    refine sp.seq R1 (S.mono e0.le) q1 fun ps O1 vps g2 H2 e2 R2 S2 s2 h2 => ?_
    split at h2
    · rename_i kvs ek
      split at h2
      · rename_i hc
        simp only [Bool.and_eq_true, decide_eq_true_eq] at hc
        have hn : g.n < (g.add p).n := Nat.lt_succ_self _
        have hn2 : g.n < g2.n := Nat.lt_of_lt_of_le hn e2.le.n
        have hp2 : g2.θ g.n = p := by rw [e2.le.θ _ hn, G.add_at]
        have hcell : O1[O.length]? = some (.dic []) := by
          have := hc.2
          unfold isDic0 at this
          split at this
          · assumption
          · cases this
        obtain ⟨vs0, hv0, hv1⟩ := R2.cell _ _ hcell
        simp only [ShrK] at hv1
        subst hv1
        rw [← R.n, hp2] at hv0
        obtain ⟨ws, rfl, hw⟩ := keysD_of ek s2
        refine ⟨hv0, ws, rfl, by rw [shrK_len hw, keysD_len ek]; exact hc.1, ?_⟩
        have hset := Ext.set (o := .dK (mergeK [] ws)) R2 hn2
        have rset := R2.set (o := .dK (mergeK [] ws)) (c := .dic (mergeD [] kvs)) hn2 ⟨_, upd_same, mergeD_of hw (by simp [ShrK])⟩
        rw [hp2] at hset rset
        rw [R.n] at rset
        refine h2 _ g2 _ hset rset ?_
        show Shr _ _ (.ob O.length) _
        simp only [Shr]
        rw [← R.n, hp2]
        exact ⟨rfl, hn2⟩
      · exact h2.elim
    · exact h2.elim⟩
def keyB : DKey → D
  | .inl i => .int i
  | .inr x => .str x
def itemsL (kvs : List (DKey × D)) : List D := kvs.map fun p => .tup [keyB p.1, p.2]
def listItemsE (fo : DE0) : DE0 := fun r O => (fo r O).bind fun d O1 => match dicOf d O1 with | some (_, kvs) => .ok (.lst (itemsL kvs)) O1 | none => .bad
theorem e_listItems (hc : X.calm = true) (ho : DE C X W o fo) (hg : Gl X "list") (hm : X.mg "list" = none) (hbase : attributeBase o "items" X.env (eval o X.env) = eval o X.env := by rfl) (hline : (apos.endLine == cpos.line) = true := by rfl)
    (hs : starEach [.Call (.Attribute o "items" apos) [] [] cpos] X.env = (false, eval (.Call (.Attribute o "items" apos) [] [] cpos) X.env) :: starEach [] X.env := by rfl) :
    DE C X W (.Call (.Name "list" p) [.Call (.Attribute o "items" apos) [] [] cpos] [] pos) (listItemsE fo) :=
  let ⟨_, po, so⟩ := ho.ex
  ⟨_, LiI.pe_listItems hc po hg hm (by decide +kernel) hbase hline hs, fun g σ H r O R S Q h => so.seq R S h fun d O1 v g1 H1 e1 R1 S1 s1 h1 => by
    have h1 : Post C W σ g1 H1 (match dicOf d O1 with | some (_, kvs) => Res.ok (D.lst (itemsL kvs)) O1 | none => Res.bad) Q := h1
    split at h1
    · rename_i l kvs eq
      obtain ⟨rfl, hl, _, ws, h2, h3⟩ := dicOf_of R1 s1 eq
      refine ⟨_, ws, rfl, h2, fun H' p ts keep hp hts hnot hl1 hpair => ?_⟩
      let g' : G := { g1 with F := fun a => if a = p ∨ a ∈ ts then H' a else g1.F a }
      have hF : ∀ a o, g1.F a = some o → g'.F a = some o := fun a o e => by
        have ha := R1.F a o e
        have : ¬ (a = p ∨ a ∈ ts) := by
          rintro (z | z)
          · rw [z, hp] at ha; cases ha
          · rw [hts a z] at ha; cases ha
        show (if a = p ∨ a ∈ ts then H' a else g1.F a) = some o
        rw [if_neg this]; exact e
      have le : GLe g1 g' := ⟨hF, fun _ _ => rfl, Nat.le_refl _⟩
      have ext : Ext g1 H1 g' H' := ⟨le, fun a o e _ => keep a o e, fun k a b => absurd b (Nat.not_lt.mpr a), fun k hk => by
        cases z : H1 (g1.θ k) with
        | none => exact absurd z (R1.trk hk)
        | some u => rw [keep _ _ z]; exact (fun y => (nomatch y)), fun a o e => by
        have e' : (if a = p ∨ a ∈ ts then H' a else g1.F a) = some o := e
        split at e'
        · rename_i z
          rcases z with z | z
          · exact .inr (z ▸ hp)
          · exact .inr (hts a z)
        · exact .inl e'⟩
      have rep : RepO C g' H' O1 := by
        refine ⟨R1.n, fun a o e => ?_, fun k c e => ?_, fun k hk => ?_, R1.inj⟩
        · have e' : (if a = p ∨ a ∈ ts then H' a else g1.F a) = some o := e
          split at e'
          · exact e'
          · exact keep a o (R1.F a o e')
        · have c1 := (R1.cell k c e).mono le
          obtain ⟨o, ho, _⟩ := (R1.cell k c e).some'
          exact c1.heap (by rw [ho, keep _ _ ho])
        · have hk' : k < g1.n := hk
          show (if g1.θ k = p ∨ g1.θ k ∈ ts then H' (g1.θ k) else g1.F (g1.θ k)) = none
          have : ¬ (g1.θ k = p ∨ g1.θ k ∈ ts) := by
            rintro (z | z)
            · exact R1.trk hk' (z ▸ hp)
            · exact R1.trk hk' (hts _ z)
          rw [if_neg this]; exact R1.fresh k hk'
      refine h1 _ g' H' ext rep ?_
      show Shr _ _ (.lst (itemsL kvs)) _
      simp only [Shr]
      refine ⟨p, ts.map V.ref, rfl, by show (if p = p ∨ p ∈ ts then H' p else g1.F p) = _; rw [if_pos (.inl rfl)]; exact hl1, ?_⟩
      have gen : ∀ (kvs : List (DKey × D)) (ws : List (Key × V)) (us : List Addr), (∀ t ∈ us, t ∈ ts) → ShrK C.K g1 kvs ws → Paired (fun (t : Addr) (q : Key × V) => H' t = some (.tup [kV q.1, q.2])) us ws → ShrL C.K g' (itemsL kvs) (us.map V.ref) := by
        intro kvs
        induction kvs with
        | nil =>
          intro ws us _ hk hpp
          simp only [ShrK] at hk
          subst hk
          cases hpp
          simp [itemsL, ShrL]
        | cons q kvs ih =>
          intro ws us hus hk hpp
          simp only [ShrK] at hk
          obtain ⟨v, r, rfl, s2, s3⟩ := hk
          cases hpp with
          | cons ht hr =>
            rename_i t us'
            simp only [itemsL, List.map_cons, ShrL]
            refine ⟨_, _, rfl, ?_, ih r us' (fun z hz => hus z (by simp [hz])) s3 hr⟩
            simp only [Shr]
            refine ⟨t, [kV (kD q.1), v], rfl, .inl (.inl ?_), ?_⟩
            · show (if t = p ∨ t ∈ ts then H' t else g1.F t) = _
              rw [if_pos (.inr (hus t (by simp)))]; exact ht
            · simp only [ShrL]
              refine ⟨_, _, rfl, ?_, _, _, rfl, Shr.mono le _ _ s2, rfl⟩
              cases q.1 with
              | inl i => rfl
              | inr x => rfl
      exact gen kvs ws ts (fun _ h => h) h3 hpair
    · exact h1.elim⟩
end
end Dn
set_option Elab.async false
set_option linter.all false
set_option maxRecDepth 100000
set_option maxHeartbeats 2000000
namespace Dn
open PySem PySem.Spec PyProof.Rows L2
section
variable {C : Ctx} {X : Cx} {W : WX} {o e f : Expr} {es : List Expr} {fe fo : DE0} {fas : Rho → Sto → Res (List D)} {apos cpos p pos c0 c1 : Pos} {j k : Nat}
end
end Dn
set_option Elab.async false
set_option linter.all false
set_option maxRecDepth 100000
set_option maxHeartbeats 2000000
namespace Dn
open PySem PySem.Spec PyProof.Rows L2
section
variable {C : Ctx} {X : Cx} {W : WX} {o e f a b : Expr} {es : List Expr} {fo fa fb : DE0} {fas : Rho → Sto → Res (List D)} {apos cpos p pos : Pos}
def idxL (y : D) : List D → Option Nat
  | [] => none
  | z :: zs => if eqv z y then some 0 else (idxL y zs).map (· + 1)
def indexF : D → List D → Sto → ER := fun d ds O => match ds with
  | [y] => (match listR d O with
    | some xs => if xs.all flatD && flatD y then (match idxL y xs with | some j => .ok (.int (j : Nat)) O | none => .bad) else .bad
    | none => .bad)
  | _ => .bad
end
end Dn
set_option Elab.async false
set_option linter.all false
set_option maxRecDepth 100000
set_option maxHeartbeats 2000000
namespace Dn
open PySem PySem.Spec PyProof.Rows L2
end Dn
set_option Elab.async false
set_option linter.all false
set_option maxRecDepth 100000
set_option maxHeartbeats 2000000
namespace PySem
namespace OwnX
open PySem.W PySem.Calls PyProof.Rows PySem.HandSPX
def iA (p1 p2 : Pos) : Arguments := { posonlyargs := [], args := [{ arg := "self", annotation := none, pos := p1 }, { arg := "at", annotation := none, pos := p2 }], vararg := none, kwonlyargs := [], kw_defaults := [], kwarg := none, defaults := [] }
def iB (q1 q2 q3 q4 : Pos) : List Stmt := [.Assign [.Attribute (.Name "self" q1) "at" q2] (.Name "at" q3) q4]
def iS : Scope := { kind := .function, names := [(PySem.Str.ofString "self", .local), (PySem.Str.ofString "at", .local)], isGenerator := false, isCoroutine := false, more := [] }
/-- what the written part says of Low, at C, and of its __init__, at fI -/
structure OwnTxt (cn iq : Str) (K : Frag) (mg : Str → Option Value) (C fI : Addr) : Prop where
  gC : mg cn = some (.ref C)
  cls : ∃ nm q N bs bm sn sub ab col dd k0 k1 k2 k3 k5, K.lookup C = some (excClassObj nm q C N bs bm true sn sub ab col dd k0 k1 k2 k3 k5 "ValueError.__new__") ∧ refsVE bm = true
  sa : findIn K (.ref C) "__setattr__" = some (some (.builtin "object.__setattr__"))
  ga : findIn K (.ref C) "__getattribute__" = some (some (.builtin "BaseException.__getattribute__"))
  gg : findIn K (.ref C) "__getattr__" = some none
  noN : findIn K (.ref C) "at" = some none
  iC : findIn K (.ref C) "__init__" = some (some (.ref fI))
  tC : typeIn K (.ref fI) = some (.type "function")
  kC : keepIn K (.ref C) = true
  exC : subIn K (.ref C) (.type "BaseException") = some true
  tyC : typeIn K (.ref C) = some (.type "type")
  hdC : hasDictIn K C = true
  te : exmOne K (.ref C) (.ref C) = some true
  fn : ∃ (oc : Value) (od : Option Addr) (doc pm : Value) (an : Option Addr) (cdv ct : Value) (osl : Array (Option Value)) (p1 p2 q1 q2 q3 q4 : Pos),
    K.lookup fI = some ⟨oc, od, .func (fnOf "__init__" iq (iA p1 p2) (iB q1 q2 q3 q4) iS .none .none doc pm an cdv ct), osl⟩ ∧ codeIn K cdv iq = true
theorem one_size (v : Value) : [v].length ≤ sizeLine := by
  rw [sizeLine_eq]
  exact (by decide : 1 ≤ 16777216)
theorem ldC {M : Model} {s : Shared} {name : Str} {scope : Scope} {L a : Addr} {cd : Value} {m : Str → Option Value} {x : Str} {pos : Pos} {v : Value} {Q : Value → Shared → Prop} {A : Around} {E : Value → Shared → Prop} (hn : s.heap.Ns L m) (hv : m x = some v) (h : Q v s)
    (hk : scope.kind = .function := by rfl) (hl : (envOfC name scope L a cd).kindOf x = some .local := by rfl) (hd : (x == ("__debug__" : Str)) = false := by decide) :
    wpAny M A (eval (.Name x pos) (envOfC name scope L a cd)) Q E s := wpAny_Name (wpAny_loadName_local hk hl hn hv h) hd
/-- what __init__ leaves of a fresh exception at x -/
structure InitEnd (h h' : Heap) (x C dx t1 : Addr) (v : Value) : Prop where
  keep : ∀ b o, b ≠ x → h.get? b = some o → h'.get? b = some o
  obj : h'.get? x = some { cls := .ref C, dict := some dx, data := .fields #[.ref t1, .none, .none, .none, .bool false, .none] }
  dbig : h.objs.size ≤ dx
  dne : dx ≠ x
  ns : h'.Ns1 dx (fun y => if y = "at" then some v else none)
/-- a made Low -/
structure OwnMade (h h' : Heap) (e C d : Addr) (v : Value) : Prop where
  keep : ∀ b o, h.get? b = some o → h'.get? b = some o
  new : h.objs.size ≤ e
  obj : ∃ oe vs, h'.get? e = some oe ∧ oe.cls = .ref C ∧ oe.dict = some d ∧ oe.data = .fields vs ∧ vs[1]? = some .none
  dbig : h.objs.size ≤ d
  dne : d ≠ e
  ns : h'.Ns1 d (fun y => if y = "at" then some v else none)
section
variable {prog : Program} {w : World} {A : Around} {E : Value → Shared → Prop} {R : Result → Shared → Prop} {s : Shared} {K : Frag} {mg : Str → Option Value} {C fI : Addr} {cn iq : Str}
theorem low_init (T : OwnTxt cn iq K mg C fI) {x t0 : Addr} {v : Value} (X : K.In s.heap) (hlim : s.heap.NoLimit) (hx : s.heap.get? x = some (excO C t0)) (hnx : K.lookup x = none) (hroom : A.depth < recursionLimit)
    (hq : ∀ h' tk dx, InitEnd s.heap h' x C dx t0 v → R (.ok (.ret .none)) { s with heap := h', toks := tk }) :
    codeAny (model prog w) A (.call (.ref fI) ⟨[.ref x, v], []⟩) R s := by
  obtain ⟨oc, od, doc, pm, an, cdv, ct, osl, p1, p2, q1, q2, q3, q4, ho, hcd⟩ := T.fn
  obtain ⟨nm, q, N, bs, bm, sn, sub, ab, col, dd, k0, k1, k2, k3, k5, hC, hbm⟩ := T.cls
  have hcl : clsIn K C = some { name := nm, bases := bs, mro := .ref C :: bm, ns := N, qualname := q, hasDict := true, slotNames := sn, subclasses := sub, abstract := ab, collection := col, hasDel := false } := by unfold clsIn; rw [hC] <;> rfl
  refine Att.call_fn (binds := [("self", .ref x), ("at", v)]) X hlim ho hcd hroom (BindsTo.of_eq (by first | rfl | with_unfolding_all rfl)) (by first | rfl | decide | with_unfolding_all rfl) (fun s₁ IC => ?_) rfl rfl rfl
  obtain ⟨h₁, tk₁, rfl⟩ := IC.toInCall.same
  have k : ∀ b o, s.heap.get? b = some o → h₁.get? b = some o := IC.toInCall.keep
  have hn := IC.toInCall.ns
  have hxL : s.heap.objs.size ≠ x := Nat.ne_of_gt (Heap.lt_size hx)
  have X₁ : K.In h₁ := X.keeps k
  have hx₁ := k _ _ hx
  -- self.by = by
  show wpAny _ _ (execs _ _) _ _ _
  refine wpAny_execs_cons (plainObj_wpAny_Assign_Attribute ?_)
  refine ldC (v := v) hn (by first | rfl | with_unfolding_all rfl | kernel_rfl) (ldC (v := .ref x) hn (by first | rfl | with_unfolding_all rfl | kernel_rfl) ?_)
  refine set_plain X₁ (ox := excO C t0) (od := none) ⟨hx₁, rfl, rfl, trivial⟩ T.sa ?_
  refine exc_osa X₁ hx₁ hcl (show refsVE (.ref C :: bm) = true from hbm) rfl T.noN (fun h₃ tk₃ dx k₃ dn dne hx₃ hn₃ => ?_)
  show wpAny _ _ (execs _ _) _ _ _
  have z : s.heap.objs.size < h₁.objs.size := hn.lt
  exact wpAny_execs_nil (hq h₃ tk₃ dx ⟨fun b o hb e => k₃ b o hb (k b o e), hx₃, Nat.le_of_lt (Nat.lt_of_lt_of_le z dn), dne, hn₃⟩)
theorem low_made (T : OwnTxt cn iq K mg C fI) {v : Value} (X : K.In s.heap) (hlim : s.heap.NoLimit) (hroom : A.depth + 1 < recursionLimit)
    (hq : ∀ h' tk e d, OwnMade s.heap h' e C d v → R (.ok (.ret (.ref e))) { s with heap := h', toks := tk }) :
    codeAny (model prog w) A (.call (.ref C) ⟨[v], []⟩) R s := by
  obtain ⟨nm, q, N, bs, bm, sn, sub, ab, col, dd, k0, k1, k2, k3, k5, hC, hbm⟩ := T.cls
  obtain ⟨hp, g, dr, tk, os⟩ := s
  have k : ∀ b o, hp.get? b = some o → ((hp.push (kdv_tup [v])).push (excO C hp.objs.size)).get? b = some o := fun b o e => Heap.get?_push_of_some _ (Heap.get?_push_of_some _ e)
  have hget : ((hp.push (kdv_tup [v])).push (excO C hp.objs.size)).get? (hp.objs.size + 1) = some (excO C hp.objs.size) := by heap_get
  have hnx : K.lookup (hp.objs.size + 1) = none := by
    cases e : K.lookup (hp.objs.size + 1) with
    | none => rfl
    | some o =>
      have z : hp.get? (hp.objs.size + 1) = some o := X _ _ e
      exact absurd (Nat.lt_of_succ_lt (Heap.lt_size z)) (Nat.lt_irrefl _)
  refine call_own F.excBase_ValueError (fun X => refsVE_contains X bm hbm) (X _ _ hC) (looks_findIn X T.iC) (fun self => bind_fn X self T.tC) (one_size v) ?_
  refine low_init (s := ⟨(hp.push (kdv_tup [v])).push (excO C hp.objs.size), g, dr, tk, os⟩) T (X.keeps k) (hlim.keeps k) hget hnx ?_ fun h' tk' dx ⟨k', hx, dn, dne, hns⟩ => ?_
  · show A.depth + 1 < recursionLimit
    exact hroom
  · have old : ∀ b o, hp.get? b = some o → h'.get? b = some o := fun b o e => k' b o (Nat.ne_of_lt (Nat.lt_succ_of_lt (Heap.lt_size e))) (k b o e)
    have z : hp.objs.size + 1 + 1 ≤ dx := by
      first
        | (simpa only [Heap.size_push] using dn)
        | exact dn
        | (have q := dn; rw [Heap.size_push, Heap.size_push] at q; exact q)
    exact ⟨rfl, hq h' tk' (hp.objs.size + 1) dx ⟨old, Nat.le_succ _, ⟨_, _, hx, rfl, rfl, rfl, rfl⟩, Nat.le_trans (Nat.le_trans (Nat.le_succ _) (Nat.le_succ _)) z, dne, hns⟩⟩
end
end OwnX
end PySem
namespace L2
open PySem PySem.Spec PyProof.Rows
theorem relO_own {v : V} {v' : Value} (r : RelV v v') (f : Str) : RelO (List.lookup f [(("at" : Str), v)]) (if f = "at" then some v' else none) := by
  by_cases hw : f = "at"
  · subst hw
    rw [if_pos rfl]
    have q : List.lookup ("at" : Str) [(("at" : Str), v)] = some v := by simp [List.lookup]
    rw [q]
    exact r
  · rw [if_neg hw]
    have qw : (f == ("at" : Str)) = false := by simpa using hw
    have q2 : List.lookup f [(("at" : Str), v)] = none := by simp [List.lookup, qw]
    rw [q2]
    trivial
section
variable {X : Cx} {C fI : Addr} {cn iq : Str}
/-- Low(e) -/
def tMkOwn (C : Addr) (ta : TA) : St → Hp → XK → Prop := fun σ H Q => ta σ H fun vs H1 => ∃ v, vs = [v] ∧ ∀ d, H1 d = none → Q (.ref C) (some d) (upd H1 d (.xd [(("at" : Str), v)]))
theorem pmk_own1 {a : Expr} {ta : TA} {p pos : Pos} {k : Nat} (T : PySem.OwnX.OwnTxt cn iq X.K X.mg C fI) (hr : Room k X.A) (ha : PA X [a] ta) (hg : Gl X cn := by rfl)
    (he : starEach (a :: []) X.env = (false, eval a X.env) :: starEach [] X.env := by rfl) (hpl : (backTo pos (starEach [] X.env)).any (·.1) = false := by rfl) (hdb : (cn == ("__debug__" : Str)) = false := by decide) :
    PMk X (.Call (.Name cn p) [a] [] pos) (tMkOwn C ta) := by
  intro pins s σ H Q I h
  refine wpAny_Call_Name_kw (ld_glob I hg T.gC ?_ hdb)
  refine PySem.W.callWith_K (h₀ := X.base) I.ok.mod.kin T.kC (thn (ha.run pos pins s σ H _ I h) fun us s1 hh => ?_) he hpl
  obtain ⟨vs, H1, I1, r1, v, ev, q1⟩ := hh
  subst ev
  refine ⟨I1.kIn, ?_⟩
  cases r1 with
  | cons rv rn =>
    rename_i v' us'
    cases rn
    show wpAny _ _ (call (.ref C) [v']) _ _ _
    have hlim := I1.nolimit
    obtain ⟨hp, g, dr, tk, os⟩ := s1
    refine wpAny_call (PySem.OwnX.low_made T I1.kIn hlim (by have := hr.dp; omega) fun h' tk' e d M => ?_)
    show MkP X pins σ Q (.ref e) ⟨h', g, dr, tk', os⟩
    obtain ⟨oe, fv, hoe, hc, hd, hdat, h1⟩ := M.obj
    have hns := M.ns
    obtain ⟨G', g1, g2⟩ := restrict h' fun b => decide (b ≠ e)
    have gk : ∀ b, b ≠ e → G'.get? b = h'.get? b := fun b hb => g1 b (decide_eq_true hb)
    have ge : G'.get? e = none := g2 e (by simp)
    have old : ∀ b o, hp.get? b = some o → G'.get? b = some o := fun b o q => (gk b (Nat.ne_of_lt (Nat.lt_of_lt_of_le (Heap.lt_size q) M.new))).trans (M.keep b o q)
    have ob : ObjOk X.prog X.w (upd H1 d (.xd [(("at" : Str), v)])) G' d (.xd [(("at" : Str), v)]) :=
      ⟨_, hns.at (fun o q => (gk d M.dne).trans q), fun f => relO_own rv f⟩
    have J : Inv X pins σ (upd H1 d (.xd [(("at" : Str), v)])) ⟨G', g, dr, tk', os⟩ := I1.laid (t' := tk') old M.dbig ob
    refine ⟨e, oe, fv, ⟨G', g, dr, tk', os⟩, _, .ref C, some d, rfl, J, fun b o q => ?_, ge, hoe, ⟨hc, hd⟩, hdat, h1, ?_, rfl, I1.bare, raises_own T.exC T.tyC, q1 d (I1.hok.fresh M.dbig)⟩
    · by_cases hb : b = e
      · have q' : G'.get? b = some o := q
        rw [hb, ge] at q'; cases q'
      · exact (gk b hb).symm.trans q
    · rw [upd_ne (Ne.symm M.dne)]
      exact I1.hok.fresh M.new
/-- raise Low(e) -/
def tRaiseOwn (C : Addr) (W : WX) (ta : TA) : TS := fun _ σ H => tMkOwn C ta σ H fun cls d H' => W cls d σ H'
theorem ps_raiseOwn {a : Expr} {ta : TA} {W : WX} {p pos pos2 : Pos} {k : Nat} (hc : X.calm = true) (T : PySem.OwnX.OwnTxt cn iq X.K X.mg C fI) (hr : Room k X.A) (tk : Takes X W) (ha : PA X [a] ta) (hg : Gl X cn := by rfl)
    (he : starEach (a :: []) X.env = (false, eval a X.env) :: starEach [] X.env := by rfl) (hpl : (backTo pos (starEach [] X.env)).any (·.1) = false := by rfl) (hdb : (cn == ("__debug__" : Str)) = false := by decide) :
    PS X (.Raise (some (.Call (.Name cn p) [a] [] pos)) none pos2) (tRaiseOwn C W ta) := ps_raise hc tk (pmk_own1 T hr ha hg he hpl hdb)
end
end L2
namespace Dn
open PySem PySem.Spec PyProof.Rows L2
section
variable {C : Ctx} {X : Cx} {W : WX} {A fI : Addr} {cn iq : Str} {p pos pos' pos2 : Pos}
def raiseS1 (i n : Nat) (fas : Rho → Sto → Res (List D)) : DS0 := fun r O => (fas r O).bindS r fun ds O1 => match ds with | [d] => .exc ⟨i, [(n, d)]⟩ r O1 | _ => .bad
theorem s_raise1 (i n : Nat) {a : Expr} {k : Nat} {fas : Rho → Sto → Res (List D)} (hc : X.calm = true) (tk : Takes X W) (hK : X.K = C.K) (he : C.ec i = some A) (hn : C.fn n = "at") (hnN : n < C.fN) (T : PySem.OwnX.OwnTxt cn iq C.K X.mg A fI) (hr : Room k X.A) (ha : DA C X W [a] fas) (hg : Gl X cn := by rfl)
    (hst : starEach (a :: []) X.env = (false, eval a X.env) :: starEach [] X.env := by rfl) (hpl : (backTo pos (starEach [] X.env)).any (·.1) = false := by rfl) (hdb : (cn == ("__debug__" : Str)) = false := by decide) :
    DS C X W (.Raise (some (.Call (.Name cn p) [a] [] pos)) none pos2) (raiseS1 i n fas) := by
  obtain ⟨_, pa, sa⟩ := ha.ex
  refine ⟨_, ps_raiseOwn hc (hK ▸ T) hr tk pa hg hst hpl hdb, fun g σ H r O R S E h => ?_⟩
  refine sa.seqS R S h fun ds O1 vs g1 H1 e1 R1 S1 s1 h1 => ?_
  split at h1
  · rename_i d
    obtain ⟨v, rfl, sv⟩ := shrL_one s1
    refine ⟨v, rfl, fun q hq => ?_⟩
    refine h1 _ _ _ (g1.frz q (.xd [(("at" : Str), v)])) _ (Ext.freeze R1 hq) (R1.frz hq) (S1.mono (GLe.frz (R1.Fnone hq))) ?_
    refine ⟨A, he, rfl, .inr ⟨q, _, rfl, by simp, upd_same, ?_⟩⟩
    exact ⟨v, [], by rw [hn], hnN, sv.mono (GLe.frz (R1.Fnone hq)), rfl⟩
  · exact h1.elim
def tryAsS (i n slot : Nat) (f : DS0) (h : D → DS0) : DS0 := fun r O => match f r O with
  | .exc e r1 O1 => if e.cls = i then (match e.fs with
    | [(m, d)] => if m = n ∧ slot < r1.length then (match h d (r1.set slot none) O1 with | .nx r2 O2 => .nx (r2.set slot none) O2 | _ => .bad) else .bad
    | _ => .bad) else .exc e r1 O1
  | y => y
end
end Dn
set_option Elab.async false
set_option linter.all false
set_option maxRecDepth 100000
set_option maxHeartbeats 4000000
namespace Dn
open PySem PySem.Spec PyProof.Rows L2
section
variable {C : Ctx} {X : Cx} {W : WX} {o e f x : Expr} {fo : DE0} {p apos cpos pos pos' : Pos}
open Classical in
noncomputable def forKL (t : TG0) (b : DS0) (l : Nat) (c : Cell) : List D → Rho → Sto → SR
  | [], r, O => if O[l]? = some c then .nx r O else .bad
  | d :: ds, r, O => if O[l]? = some c then (match t d r O with
      | none => .bad
      | some (r1, O1) => match b r1 O1 with
        | .nx r2 O2 => forKL t b l c ds r2 O2 | .ct r2 O2 => forKL t b l c ds r2 O2 | .bk r2 O2 => .nx r2 O2 | .ret d O2 => .ret d O2 | .exc e r2 O2 => .exc e r2 O2 | .bad => .bad) else .bad
open Classical in
noncomputable def openS (l : Nat) (c : Cell) (kvs : List (DKey × D)) : SR → SR
  | .nx r O => if O[l]? = some c then .nx r (O.set l (.dic kvs)) else .bad
  | .ct r O => if O[l]? = some c then .ct r (O.set l (.dic kvs)) else .bad
  | .bk r O => if O[l]? = some c then .bk r (O.set l (.dic kvs)) else .bad
  | .ret d O => if O[l]? = some c then .ret d (O.set l (.dic kvs)) else .bad
  | _ => .bad
/-- the ends seen from inside -/
def lockD (d : Addr) (fz u : HO) (D : Ends) : Ends := ⟨fun σ' H' => H' d = some fz ∧ D.nx σ' (upd H' d u), fun v H' => H' d = some fz ∧ D.rt v (upd H' d u), fun σ' H' => H' d = some fz ∧ D.bk σ' (upd H' d u), fun σ' H' => H' d = some fz ∧ D.ct σ' (upd H' d u)⟩
theorem open_post {g0 : G} {H0 : Hp} {O0 : Sto} {l : Nat} {od : Obj} {vs : List (Key × V)} {kvs : List (DKey × D)} (R0 : RepO C g0 H0 O0) (hl : l < g0.n) (hd : H0 (g0.θ l) = some (.dK vs)) (sk : ShrK C.K g0 kvs vs) {x : SR} {E : Ends}
    (h : PostS C W g0 H0 (openS l (.loc (.frz od (.dK vs)) kvs) kvs x) E) : PostS C W g0 (upd H0 (g0.θ l) (.frz od (.dK vs))) x (lockD (g0.θ l) (.frz od (.dK vs)) (.dK vs) E) := by
  have core : ∀ {g' : G} {H' : Hp} {O : Sto}, Ext g0 (upd H0 (g0.θ l) (.frz od (.dK vs))) g' H' → RepO C g' H' O → O[l]? = some (.loc (.frz od (.dK vs)) kvs) →
      H' (g0.θ l) = some (.frz od (.dK vs)) ∧ Ext g0 H0 g' (upd H' (g0.θ l) (.dK vs)) ∧ RepO C g' (upd H' (g0.θ l) (.dK vs)) (O.set l (.dic kvs)) := by
    intro g' H' O ex R' hO
    have e1 : g'.θ l = g0.θ l := ex.le.θ l hl
    obtain ⟨c1, _⟩ := R'.cell l _ hO
    rw [e1] at c1
    have hl' : l < g'.n := Nat.lt_of_lt_of_le hl ex.le.n
    refine ⟨c1, ⟨ex.le, fun a o q n => ?_, fun k a b => ?_, fun k hk => ?_, fun a o q => ?_⟩, ?_⟩
    · have : a ≠ g0.θ l := fun z => n l hl z.symm
      rw [upd_ne this]
      exact ex.keep a o (by rw [upd_ne this]; exact q) n
    · have q := ex.new k a b
      have : g'.θ k ≠ g0.θ l := fun z => by rw [z, upd_same] at q; cases q
      rw [upd_ne this] at q; exact q
    · by_cases q : g0.θ k = g0.θ l
      · rw [q, upd_same]; exact fun z => nomatch z
      · rw [upd_ne q]; exact ex.trk k hk
    · rcases ex.frz a o q with z | z
      · exact .inl z
      · have : a ≠ g0.θ l := fun y => by rw [y, upd_same] at z; cases z
        rw [upd_ne this] at z; exact .inr z
    · rw [← e1]
      exact R'.set hl' ⟨vs, upd_same, sk.mono ex.le⟩
  cases x with
  | nx r O =>
    simp only [openS] at h
    split at h
    · rename_i hO
      intro σ' g' H' ex R' S'
      obtain ⟨c1, c2, c3⟩ := core ex R' hO
      exact ⟨c1, h σ' g' _ c2 c3 S'⟩
    · exact h.elim
  | ct r O =>
    simp only [openS] at h
    split at h
    · rename_i hO
      intro σ' g' H' ex R' S'
      obtain ⟨c1, c2, c3⟩ := core ex R' hO
      exact ⟨c1, h σ' g' _ c2 c3 S'⟩
    · exact h.elim
  | bk r O =>
    simp only [openS] at h
    split at h
    · rename_i hO
      intro σ' g' H' ex R' S'
      obtain ⟨c1, c2, c3⟩ := core ex R' hO
      exact ⟨c1, h σ' g' _ c2 c3 S'⟩
    · exact h.elim
  | ret d O =>
    simp only [openS] at h
    split at h
    · rename_i hO
      intro v g' H' ex R' S'
      obtain ⟨c1, c2, c3⟩ := core ex R' hO
      exact ⟨c1, h v g' _ c2 c3 S'⟩
    · exact h.elim
  | exc e r O => exact h.elim
  | bad => exact h.elim
end
end Dn
set_option Elab.async false
set_option linter.all false
set_option maxRecDepth 100000
set_option maxHeartbeats 4000000
namespace Dn
open PySem PySem.Spec PyProof.Rows L2
section
variable {C : Ctx} {X : Cx} {W : WX} {a b e : Expr} {fa fb : DE0} {p pos : Pos} {es : List Expr} {fas : Rho → Sto → Res (List D)}
def pairsD : List D → Option (List (DKey × D))
  | [] => some []
  | .tup [k, v] :: ds => match keyD k with | some k => (pairsD ds).map ((k, v) :: ·) | none => none
  | _ :: _ => none
def dictF : List D → Sto → ER := fun ds O => match ds with
  | [d] => (match dicOf d O with
    | some (_, kvs) => .ok (.ob O.length) (O ++ [.dic kvs])
    | none => match listR d O with
      | some xs => (match pairsD xs with | some kvs => .ok (.ob O.length) (O ++ [.dic (mergeD [] kvs)]) | none => .bad)
      | none => .bad)
  | _ => .bad
def rDictD : List V → Hp → VK → Prop := fun xs H Q => ∃ (a : Addr) (kvs : List (Key × V)), xs = [.ref a] ∧ Rd H a (.dK kvs) ∧ ∀ p, H p = none → Q (.ref p) (upd H p (.dK kvs))
def rDictP (K : PySem.W.Frag) : List V → Hp → VK → Prop := fun xs H Q => ∃ (a : Addr) (ps : List Addr) (kvs : List (Key × V)), xs = [.ref a] ∧ SqL K H a (ps.map V.ref) ∧ Paired (fun p kv => SqT K H p [kV kv.1, kv.2]) ps kvs ∧ ∀ p, H p = none → Q (.ref p) (upd H p (.dK (mergeK [] kvs)))
theorem new_dic {g : G} {H : Hp} {O : Sto} {σ : L2.St} {kvs : List (DKey × D)} {vs : List (Key × V)} {Q : VK} (R : RepO C g H O) (s : ShrK C.K g kvs vs) (h : Post C W σ g H (Res.ok (D.ob O.length) (O ++ [.dic kvs])) Q) {p : Addr} (hp : H p = none) : Q (.ref p) (upd H p (.dK vs)) := by
  have hk : ∀ a o, H a = some o → upd H p (.dK vs) a = some o := fun a o e => by rw [upd_ne (ne_of_none e hp)]; exact e
  refine h _ (g.add p) _ (Ext.add R hp hk) (R.add hp hk ⟨vs, upd_same, s.mono GLe.add⟩) ?_
  show Shr _ _ (.ob O.length) _
  simp only [Shr]
  rw [← R.n, G.add_at]
  exact ⟨rfl, Nat.lt_succ_self _⟩
theorem keyB_shr {K : PySem.W.Frag} {g : G} {k : D} {dk : DKey} {v : V} (h : keyD k = some dk) (s : Shr K g k v) : v = kV (kD dk) := by
  cases k <;> simp only [keyD] at h <;> first | cases h | skip
  · cases s; rfl
  · cases s; rfl
theorem pairs_of {g : G} {H : Hp} (hF : ∀ a o, g.F a = some o → H a = some o) : ∀ {xs : List D} {kvs : List (DKey × D)} {ws : List V}, pairsD xs = some kvs → ShrL C.K g xs ws → ∃ (ps : List Addr) (vs : List (Key × V)), ws = ps.map V.ref ∧ Paired (fun p (kv : Key × V) => SqT C.K H p [kV kv.1, kv.2]) ps vs ∧ ShrK C.K g kvs vs
  | [], kvs, ws, h, s => by
    simp only [pairsD] at h; cases h
    simp only [ShrL] at s; subst s
    exact ⟨[], [], rfl, .nil, by simp [ShrK]⟩
  | x :: xs, kvs, ws, h, s => by
    unfold pairsD at h
    split at h
    · cases ‹x :: xs = []›
    · rename_i k v ds e
      cases e
      split at h
      · rename_i dk hk
        simp only [Option.map_eq_some_iff] at h
        obtain ⟨kvs', h1, rfl⟩ := h
        simp only [ShrL] at s
        obtain ⟨w, r, rfl, s1, s2⟩ := s
        simp only [Shr, ShrL] at s1
        obtain ⟨q, us, rfl, t1, v1, r1, rfl, k1, v2, r2, rfl, k2, rfl⟩ := s1
        obtain ⟨ps, vs, rfl, p1, p2⟩ := pairs_of hF h1 s2
        have := keyB_shr hk k1
        subst this
        exact ⟨q :: ps, (kD dk, v2) :: vs, rfl, .cons (ex_t hF t1) p1, by simp only [ShrK]; exact ⟨v2, vs, rfl, k2, p2⟩⟩
      · cases h
    · cases h
theorem s_dict : SatC C W (fun xs H Q => rDictD xs H Q ∨ rDictP C.K xs H Q) dictF := by
  intro g H O R ds vs s σ Q h
  unfold dictF at h
  split at h
  · rename_i d
    obtain ⟨v, rfl, sv⟩ := shrL_one s
    split at h
    · rename_i l kvs eq
      obtain ⟨rfl, _, _, ws, h2, h3⟩ := dicOf_of R sv eq
      exact .inl ⟨_, ws, rfl, .inl h2, fun p hp => new_dic R h3 h hp⟩
    · split at h
      · rename_i xs ex
        split at h
        · rename_i kvs ek
          obtain ⟨a, ws, rfl, h1, h2⟩ := listR_of R sv ex
          obtain ⟨ps, us, rfl, p1, p2⟩ := pairs_of R.F ek h2
          exact .inr ⟨a, ps, us, rfl, h1, p1, fun p hp => new_dic R (mergeD_of p2 (by simp [ShrK])) h hp⟩
        · exact h.elim
      · exact h.elim
  · exact h.elim
theorem e_dict (hK : X.K = C.K) (hc : X.calm = true) (hm : X.mg "dict" = none) (hg : Gl X "dict") (ha : DA C X W (e :: es) fas)
    (he : starEach (e :: es) X.env = (false, eval e X.env) :: starEach es X.env := by rfl) (hpl : (backTo pos (starEach es X.env)).any (·.1) = false := by rfl) : DE C X W (.Call (.Name "dict" p) (e :: es) [] pos) (callE dictF fas) :=
  d_callTy (CallR.or call_dictD (call_dictP hc)) (by rw [hK]; exact s_dict) hg hm (by decide +kernel) ha (by decide) (by decide) he hpl
end
end Dn
set_option Elab.async false
set_option linter.all false
set_option maxRecDepth 100000
set_option maxHeartbeats 4000000
namespace Dn
open PySem PySem.Spec PyProof.Rows L2
end Dn
set_option linter.all false
namespace Dn
open PySem
theorem bind_ok {α γ : Type} (a : α) (O : Sto) (k : α → Sto → Res γ) : (Res.ok a O).bind k = k a O := rfl
theorem bindS_ok {α : Type} (a : α) (O : Sto) (r : Rho) (k : α → Sto → SR) : (Res.ok a O).bindS r k = k a O := rfl
theorem bind_nx (r : Rho) (O : Sto) (k : Rho → Sto → SR) : (SR.nx r O).bind k = k r O := rfl
theorem bind_ret (d : D) (O : Sto) (k : Rho → Sto → SR) : (SR.ret d O).bind k = .ret d O := rfl
/-- which class has which field -/
def att (c f : Nat) : Bool := match c with
  | 0 => ([0, 1, 2] : List Nat).contains f
  | 1 => ([0, 3, 4, 5] : List Nat).contains f
  | 2 => ([6, 7] : List Nat).contains f
  | 3 => ([8, 9, 10, 11] : List Nat).contains f
  | 4 => ([12, 13, 14, 15, 6] : List Nat).contains f
  | 5 => ([16, 17, 18, 0, 19] : List Nat).contains f
  | 6 => ([20, 21] : List Nat).contains f
  | _ => false
end Dn
set_option linter.all false
set_option maxRecDepth 100000
namespace Dn.Lib
open Dn PySem
def c_DEEP_MOST_gatetext : D := .int 30
def c_DEEP_MOST_names : D := .int 6
def c_FIELDS : D := .tup [(.str [109, 111, 109, 101, 110, 116]), (.str [108, 101, 118, 101, 108]), (.str [110, 97, 109, 101]), (.str [119, 111, 114, 100, 115])]
def c_MARKS : D := .str [60, 62, 61]
def c_PART_MOST : D := .int 8
def c_SIGNS_gatetext : D := .str [97, 98, 99, 100, 101, 102, 103, 104, 105, 106, 107, 108, 109, 110, 111, 112, 113, 114, 115, 116, 117, 118, 119, 120, 121, 122, 48, 49, 50, 51, 52, 53, 54, 55, 56, 57, 95, 46, 42]
def c_SIGNS_names : D := .str [97, 98, 99, 100, 101, 102, 103, 104, 105, 106, 107, 108, 109, 110, 111, 112, 113, 114, 115, 116, 117, 118, 119, 120, 121, 122, 48, 49, 50, 51, 52, 53, 54, 55, 56, 57, 95]
def c_TOP_LEVEL : D := .int 30
def c_WIDE_MOST : D := .int 40
def c_WORDS : D := .tup [(.str [97, 108, 108]), (.str [100, 101, 98, 117, 103]), (.str [105, 110, 102, 111]), (.str [119, 97, 114, 110]), (.str [101, 114, 114, 111, 114]), (.str [102, 97, 116, 97, 108])]
def B_Hall_init : DS0 :=
  (consS (fldS att 16 (varE 0) (dicE (consP (constE (.str [])) (constE c_TOP_LEVEL) nilP)))
    (consS (fldS att 17 (varE 0) dic0E)
    (consS (fldS att 18 (varE 0) dic0E)
    (consS (fldS att 0 (varE 0) (constE (.int 0)))
    (fldS att 19 (varE 0) (constE (.int 0)))))))
def fn_Hall_init : Fn := runFn 1 B_Hall_init
def B_Writer_init : DS0 :=
  (consS (fldS att 12 (varE 0) (varE 1))
    (consS (fldS att 13 (varE 0) (varE 2))
    (consS (fldS att 14 (varE 0) (varE 3))
    (consS (fldS att 15 (varE 0) (varE 4))
    (fldS att 6 (varE 0) (lstE true nilA))))))
def fn_Writer_init : Fn := runFn 5 B_Writer_init
def Q_read_field_1 : DS0 :=
  (consS (asgS (tupG 3 (consG (nameG 2) (consG (nameG 3) (consG (nameG 4) nilG)))) (bmE tyStr partition1F (varE 0) (consA (varE 1) nilA)))
    (ifS (andT (cmpT neD (varE 3) (constE (.str []))) (cmpT (inB false) (varE 2) (constE c_FIELDS)))
    (consS (setS 5 (lcE false (callI range2F (consA (constE (.int 1)) (consA (op2 (addD false) (constE c_WIDE_MOST) (constE (.int 1))) nilA))) (nameG 6) (cmpT eqD (callE strF (consA (varE 6) nilA)) (varE 4)) (varE 6) [6]))
    (ifS (truT (varE 5))
    (retS (tupE (consA (constE (.str [102, 105, 101, 108, 100])) (consA (varE 2) (consA (varE 1) (consA (op2 ixD (varE 5) (constE (.int 0))) nilA))))))
    nilS))
    nilS))
def B_read_field : DS0 :=
  (consS (forS (seqI (constE c_MARKS)) (nameG 1)
    Q_read_field_1)
    (consS (ifS (cmpT (inB false) (varE 0) (constE c_FIELDS))
    (retS (tupE (consA (constE (.str [102, 105, 101, 108, 100])) (consA (varE 0) (consA (constE (.str [])) (consA (constE (.int 0)) nilA))))))
    nilS)
    (retS (constE .non))))
def fn_read_field : Fn := runFn 7 B_read_field
def B_with_text : DS0 :=
  (consS (ifS (andT (truT (varE 0)) (cmpT eqD (op2 ixD (op2 ixD (varE 0) (op1 negD (constE (.int 1)))) (constE (.int 0))) (constE (.str [116, 101, 120, 116]))))
    (retS (op2 (addD false) (slE false (varE 0) noP (someP (op1 negD (constE (.int 1))))) (tupE (consA (tupE (consA (constE (.str [116, 101, 120, 116])) (consA (op2 (addD false) (op2 ixD (op2 ixD (varE 0) (op1 negD (constE (.int 1)))) (constE (.int 1))) (varE 1)) nilA))) nilA))))
    nilS)
    (retS (op2 (addD false) (varE 0) (tupE (consA (tupE (consA (constE (.str [116, 101, 120, 116])) (consA (varE 1) nilA))) nilA)))))
def fn_with_text : Fn := runFn 2 B_with_text
def Q_read_form_1 : DS0 :=
  (ifS (cmpT (inB false) (slE false (varE 0) (someP (varE 2)) (someP (op2 (addD false) (varE 2) (constE (.int 2))))) (tupE (consA (constE (.str [123, 123])) (consA (constE (.str [125, 125])) nilA))))
    (consS (setS 1 (fnE 2 (closeFn fn_with_text) (consA (varE 1) (consA (op2 ixD (varE 0) (varE 2)) nilA))))
    (setS 2 (op2 (addD false) (varE 2) (constE (.int 2)))))
    (ifS (cmpT eqD (op2 ixD (varE 0) (varE 2)) (constE (.str [123])))
    (consS (setS 3 (bmE tyStr find2F (varE 0) (consA (constE (.str [125])) (consA (varE 2) nilA))))
    (consS (setS 4 (constE .non))
    (consS (ifS (cmpT gtD (varE 3) (constE (.int 0)))
    (setS 4 (fnE 1 (closeFn fn_read_field) (consA (slE false (varE 0) (someP (op2 (addD false) (varE 2) (constE (.int 1)))) (someP (varE 3))) nilA)))
    nilS)
    (consS (ifS (cmpT isNoneD (varE 4) (constE .non))
    (raiseS1 4 22 (consA (varE 2) nilA))
    nilS)
    (consS (setS 1 (op2 (addD false) (varE 1) (tupE (consA (varE 4) nilA))))
    (setS 2 (op2 (addD false) (varE 3) (constE (.int 1)))))))))
    (consS (ifS (cmpT eqD (op2 ixD (varE 0) (varE 2)) (constE (.str [125])))
    (raiseS1 4 22 (consA (varE 2) nilA))
    nilS)
    (consS (setS 1 (fnE 2 (closeFn fn_with_text) (consA (varE 1) (consA (op2 ixD (varE 0) (varE 2)) nilA))))
    (setS 2 (op2 (addD false) (varE 2) (constE (.int 1))))))))
def B_read_form : DS0 :=
  (consS (setS 1 (tupE nilA))
    (consS (setS 2 (constE (.int 0)))
    (consS (whileS 100000 (cmpT ltD (varE 2) (callE lenF (consA (varE 0) nilA)))
    Q_read_form_1)
    (retS (varE 1)))))
def fn_read_form : Fn := runFn 5 B_read_form
def Q_tokens_1 : DS0 :=
  (setS 2 (op2 (addD false) (varE 2) (constE (.int 1))))
def Q_tokens_2 : DS0 :=
  (consS (setS 3 (varE 2))
    (consS (setS 2 (op2 (addD false) (varE 2) (constE (.int 1))))
    (consS (ifS (cmpT eqD (op2 ixD (varE 0) (varE 3)) (constE (.str [39])))
    (consS (setS 2 (op2 (addD false) (bmE tyStr find2F (varE 0) (consA (constE (.str [39])) (consA (varE 2) nilA))) (constE (.int 1))))
    (ifS (cmpT eqD (varE 2) (constE (.int 0)))
    (raiseS1 3 22 (consA (varE 3) nilA))
    nilS))
    (ifS (cmpT (inB false) (op2 ixD (varE 0) (varE 3)) (constE c_SIGNS_gatetext))
    (whileS 100000 (andT (cmpT ltD (varE 2) (callE lenF (consA (varE 0) nilA))) (cmpT (inB false) (op2 ixD (varE 0) (varE 2)) (constE c_SIGNS_gatetext)))
    Q_tokens_1)
    (ifS (cmpT (inB true) (op2 ixD (varE 0) (varE 3)) (constE (.str [40, 41, 32])))
    (raiseS1 3 22 (consA (varE 3) nilA))
    nilS)))
    (ifS (cmpT neD (op2 ixD (varE 0) (varE 3)) (constE (.str [32])))
    (exprS (bmE tyLst appendF (varE 1) (consA (tupE (consA (slE false (varE 0) (someP (varE 3)) (someP (varE 2))) (consA (varE 3) nilA))) nilA)))
    nilS))))
def B_tokens : DS0 :=
  (consS (setS 1 (lstE true nilA))
    (consS (setS 2 (constE (.int 0)))
    (consS (whileS 100000 (cmpT ltD (varE 2) (callE lenF (consA (varE 0) nilA)))
    Q_tokens_2)
    (retS (op2 (addD false) (varE 1) (lstE false (consA (tupE (consA (constE (.str [])) (consA (callE lenF (consA (varE 0) nilA)) nilA))) nilA)))))))
def fn_tokens : Fn := runFn 4 B_tokens
def B_Reader_init : DS0 :=
  (consS (fldS att 20 (varE 0) (fnE 1 (closeFn fn_tokens) (consA (varE 1) nilA)))
    (fldS att 21 (varE 0) (constE (.int 0))))
def fn_Reader_init : Fn := runFn 2 B_Reader_init
def B_Reader_fail : DS0 :=
  (raiseS1 3 22 (consA (op2 ixD (op2 ixD (fldE att 20 (varE 0)) (constE (.int 0))) (constE (.int 1))) nilA))
def fn_Reader_fail : Fn := runFn 1 B_Reader_fail
def B_Reader_next_word : DS0 :=
  (retS (op2 ixD (op2 ixD (fldE att 20 (varE 0)) (constE (.int 0))) (constE (.int 0))))
def fn_Reader_next_word : Fn := runFn 1 B_Reader_next_word
def B_Reader_pass_word : DS0 :=
  (consS (setS 1 (op2 ixD (op2 ixD (fldE att 20 (varE 0)) (constE (.int 0))) (constE (.int 0))))
    (consS (fldS att 20 (varE 0) (slE false (fldE att 20 (varE 0)) (someP (constE (.int 1))) noP))
    (retS (varE 1))))
def fn_Reader_pass_word : Fn := runFn 2 B_Reader_pass_word
def B_is_name : DS0 :=
  (consS (ifS (notT (truT (op1 (isiD 3) (varE 0))))
    (retS (constE (.bl false)))
    nilS)
    (consS (ifS (cmpT eqD (varE 0) (constE (.str [])))
    (retS (constE (.bl true)))
    nilS)
    (consS (setS 1 (bmE tyStr (splitF false) (varE 0) (consA (constE (.str [46])) nilA)))
    (consS (setS 2 (lcE false (seqI (varE 1)) (nameG 4) yesT (andE (chainE leD leD (constE (.int 1)) (callE lenF (consA (varE 4) nilA)) (constE c_PART_MOST)) (callE allF (consA (lcE false (seqI (varE 4)) (nameG 3) yesT (op2 (inB false) (varE 3) (constE c_SIGNS_names)) [3]) nilA))) [4]))
    (retS (andE (op2 leD (callE lenF (consA (varE 1) nilA)) (constE c_DEEP_MOST_names)) (callE allF (consA (varE 2) nilA))))))))
def fn_is_name : Fn := runFn 5 B_is_name
def B_Reader_asked : DS0 :=
  (consS (setS 2 (methE 6 1 fn_Reader_next_word (varE 0) nilA))
    (consS (ifS (cmpT eqD (varE 1) (constE (.str [108, 101, 118, 101, 108])))
    (consS (setS 3 (lcE false (seqI (varE 2)) (nameG 4) (cmpT (inB false) (varE 4) (constE (.str [48, 49, 50, 51, 52, 53, 54, 55, 56, 57]))) (varE 4) [4]))
    (consS (ifS (orT (notT (chainT leD leD (constE (.int 1)) (callE lenF (consA (varE 2) nilA)) (constE (.int 2)))) (orT (cmpT ltD (callE lenF (consA (varE 3) nilA)) (callE lenF (consA (varE 2) nilA))) (andT (cmpT eqD (op2 ixD (varE 2) (constE (.int 0))) (constE (.str [48]))) (cmpT gtD (callE lenF (consA (varE 2) nilA)) (constE (.int 1))))))
    (exprS (methE 6 1 fn_Reader_fail (varE 0) nilA))
    nilS)
    (retS (callE intF (consA (methE 6 1 fn_Reader_pass_word (varE 0) nilA) nilA)))))
    nilS)
    (consS (ifS (cmpT eqD (varE 1) (constE (.str [104, 97, 115])))
    (consS (ifS (cmpT neD (slE false (varE 2) noP (someP (constE (.int 1)))) (constE (.str [39])))
    (exprS (methE 6 1 fn_Reader_fail (varE 0) nilA))
    nilS)
    (retS (slE false (methE 6 1 fn_Reader_pass_word (varE 0) nilA) (someP (constE (.int 1))) (someP (op1 negD (constE (.int 1)))))))
    nilS)
    (consS (ifS (cmpT eqD (varE 2) (constE (.str [42])))
    (consS (exprS (methE 6 1 fn_Reader_pass_word (varE 0) nilA))
    (retS (constE (.str []))))
    nilS)
    (consS (ifS (orT (cmpT eqD (varE 2) (constE (.str []))) (notT (truT (fnE 1 (closeFn fn_is_name) (consA (varE 2) nilA)))))
    (exprS (methE 6 1 fn_Reader_fail (varE 0) nilA))
    nilS)
    (retS (methE 6 1 fn_Reader_pass_word (varE 0) nilA)))))))
def fn_Reader_asked : Fn := runFn 5 B_Reader_asked
def B_Reader_any_of (r_Reader_any_of : Fn) (r_Reader_all_of : Fn) (r_Reader_one : Fn) : DS0 :=
  (consS (setS 1 (methE 6 1 r_Reader_all_of (varE 0) nilA))
    (consS (whileS 100000 (cmpT eqD (methE 6 1 fn_Reader_next_word (varE 0) nilA) (constE (.str [111, 114])))
    (consS (exprS (methE 6 1 fn_Reader_pass_word (varE 0) nilA))
    (setS 1 (tupE (consA (constE (.str [111, 114])) (consA (varE 1) (consA (methE 6 1 r_Reader_all_of (varE 0) nilA) nilA)))))))
    (retS (varE 1))))
def B_Reader_all_of (r_Reader_any_of : Fn) (r_Reader_all_of : Fn) (r_Reader_one : Fn) : DS0 :=
  (consS (setS 1 (methE 6 1 r_Reader_one (varE 0) nilA))
    (consS (whileS 100000 (cmpT eqD (methE 6 1 fn_Reader_next_word (varE 0) nilA) (constE (.str [97, 110, 100])))
    (consS (exprS (methE 6 1 fn_Reader_pass_word (varE 0) nilA))
    (setS 1 (tupE (consA (constE (.str [97, 110, 100])) (consA (varE 1) (consA (methE 6 1 r_Reader_one (varE 0) nilA) nilA)))))))
    (retS (varE 1))))
def B_Reader_one (r_Reader_any_of : Fn) (r_Reader_all_of : Fn) (r_Reader_one : Fn) : DS0 :=
  (consS (setS 1 (methE 6 1 fn_Reader_next_word (varE 0) nilA))
    (consS (ifS (cmpT (inB false) (varE 1) (tupE (consA (constE (.str [121, 101, 115])) (consA (constE (.str [110, 111])) nilA))))
    (retS (tupE (consA (methE 6 1 fn_Reader_pass_word (varE 0) nilA) nilA)))
    nilS)
    (consS (ifS (cmpT (inB false) (varE 1) (tupE (consA (constE (.str [108, 101, 118, 101, 108])) (consA (constE (.str [117, 110, 100, 101, 114])) (consA (constE (.str [104, 97, 115])) nilA)))))
    (consS (exprS (methE 6 1 fn_Reader_pass_word (varE 0) nilA))
    (retS (tupE (consA (varE 1) (consA (methE 6 2 fn_Reader_asked (varE 0) (consA (varE 1) nilA)) nilA)))))
    nilS)
    (consS (ifS (cmpT (inB true) (varE 1) (tupE (consA (constE (.str [110, 111, 116])) (consA (constE (.str [40])) nilA))))
    (exprS (methE 6 1 fn_Reader_fail (varE 0) nilA))
    nilS)
    (consS (fldS att 21 (varE 0) (op2 (addD false) (fldE att 21 (varE 0)) (constE (.int 1))))
    (consS (ifS (cmpT gtD (fldE att 21 (varE 0)) (constE c_DEEP_MOST_gatetext))
    (exprS (methE 6 1 fn_Reader_fail (varE 0) nilA))
    nilS)
    (consS (exprS (methE 6 1 fn_Reader_pass_word (varE 0) nilA))
    (consS (ifS (cmpT eqD (varE 1) (constE (.str [110, 111, 116])))
    (setS 2 (tupE (consA (constE (.str [110, 111, 116])) (consA (methE 6 1 r_Reader_one (varE 0) nilA) nilA))))
    (consS (setS 2 (methE 6 1 r_Reader_any_of (varE 0) nilA))
    (consS (ifS (cmpT neD (methE 6 1 fn_Reader_next_word (varE 0) nilA) (constE (.str [41])))
    (exprS (methE 6 1 fn_Reader_fail (varE 0) nilA))
    nilS)
    (exprS (methE 6 1 fn_Reader_pass_word (varE 0) nilA)))))
    (consS (fldS att 21 (varE 0) (op2 subD (fldE att 21 (varE 0)) (constE (.int 1))))
    (retS (varE 2)))))))))))
def grp_Reader_any_of : Nat → Fn × Fn × Fn
  | 0 => (fun _ _ => .bad, fun _ _ => .bad, fun _ _ => .bad)
  | n + 1 => let g := grp_Reader_any_of n; (runFn 2 (B_Reader_any_of g.1 g.2.1 g.2.2), runFn 2 (B_Reader_all_of g.1 g.2.1 g.2.2), runFn 3 (B_Reader_one g.1 g.2.1 g.2.2))
def fn_Reader_any_of (n : Nat) : Fn := (grp_Reader_any_of n).1
def fn_Reader_all_of (n : Nat) : Fn := (grp_Reader_any_of n).2.1
def fn_Reader_one (n : Nat) : Fn := (grp_Reader_any_of n).2.2
def B_read_gate : DS0 :=
  (consS (setS 1 (makeE 6 2 fn_Reader_init (consA (varE 0) nilA)))
    (consS (setS 2 (methE 6 1 (fn_Reader_any_of 100) (varE 1) nilA))
    (consS (ifS (cmpT neD (methE 6 1 fn_Reader_next_word (varE 1) nilA) (constE (.str [])))
    (exprS (methE 6 1 fn_Reader_fail (varE 1) nilA))
    nilS)
    (retS (varE 2)))))
def fn_read_gate : Fn := runFn 3 B_read_gate
def B_Hall_add_writer : DS0 :=
  (consS (setS 5 (fnE 1 (closeFn fn_read_gate) (consA (varE 3) nilA)))
    (consS (exprS (fnE 1 (closeFn fn_read_form) (consA (varE 4) nilA)))
    (consS (fldS att 0 (varE 0) (op2 (addD false) (fldE att 0 (varE 0)) (constE (.int 1))))
    (consS (asgS (subG (fldE att 18 (varE 0)) (fldE att 0 (varE 0))) (makeE 4 5 fn_Writer_init (consA (varE 1) (consA (varE 2) (consA (varE 5) (consA (varE 4) nilA))))))
    (retS (fldE att 0 (varE 0)))))))
def fn_Hall_add_writer : Fn := runFn 6 B_Hall_add_writer
def B_Hall_close : DS0 :=
  (asgS (subG (fldE att 17 (varE 0)) (varE 1)) (varE 2))
def fn_Hall_close : Fn := runFn 3 B_Hall_close
def B_above : DS0 :=
  (consS (ifS (cmpT eqD (varE 0) (constE (.str [])))
    (retS (tupE nilA))
    nilS)
    (consS (setS 1 (bmE tyStr (splitF false) (varE 0) (consA (constE (.str [46])) nilA)))
    (retS (callE tupleF (consA (lcE false (callI range3F (consA (op2 subD (callE lenF (consA (varE 1) nilA)) (constE (.int 1))) (consA (op1 negD (constE (.int 1))) (consA (op1 negD (constE (.int 1))) nilA)))) (nameG 2) yesT (bmE tyStr joinF (constE (.str [46])) (consA (slE false (varE 1) noP (someP (varE 2))) nilA)) [2]) nilA)))))
def fn_above : Fn := runFn 3 B_above
def Q_Hall_level_of_1 : DS0 :=
  (ifS (cmpT (inB false) (varE 2) (fldE att 16 (varE 0)))
    (retS (op2 ixD (fldE att 16 (varE 0)) (varE 2)))
    nilS)
def B_Hall_level_of : DS0 :=
  (consS (forS (seqI (op2 (addD false) (tupE (consA (varE 1) nilA)) (fnE 1 (closeFn fn_above) (consA (varE 1) nilA)))) (nameG 2)
    Q_Hall_level_of_1)
    (retS (constE c_TOP_LEVEL)))
def fn_Hall_level_of : Fn := runFn 3 B_Hall_level_of
def B_Hall_is_told : DS0 :=
  (retS (andE (op2 geD (varE 2) (fldE att 19 (varE 0))) (op2 geD (varE 2) (methE 5 2 fn_Hall_level_of (varE 0) (consA (varE 1) nilA)))))
def fn_Hall_is_told : Fn := runFn 3 B_Hall_is_told
def B_Hall_writer_at : DS0 :=
  (consS (ifS (cmpT (inB true) (varE 1) (fldE att 18 (varE 0)))
    (raiseS 5)
    nilS)
    (retS (op2 ixD (fldE att 18 (varE 0)) (varE 1))))
def fn_Hall_writer_at : Fn := runFn 2 B_Hall_writer_at
def B_Hall_rows : DS0 :=
  (retS (callE tupleF (consA (fldE att 6 (methE 5 2 fn_Hall_writer_at (varE 0) (consA (varE 1) nilA))) nilA)))
def fn_Hall_rows : Fn := runFn 2 B_Hall_rows
def B_Hall_set_level : DS0 :=
  (asgS (subG (fldE att 16 (varE 0)) (varE 1)) (varE 2))
def fn_Hall_set_level : Fn := runFn 3 B_Hall_set_level
def B_Hall_take_away : DS0 :=
  (consS (exprS (methE 5 2 fn_Hall_writer_at (varE 0) (consA (varE 1) nilA)))
    (exprS (popE (fldE att 18 (varE 0)) (varE 1))))
def fn_Hall_take_away : Fn := runFn 2 B_Hall_take_away
def Q_Hall_ways_1 : DS0 :=
  (consS (setS 2 (op2 (addD false) (varE 2) (tupE (consA (varE 3) nilA))))
    (ifS (truT (getE2 (fldE att 17 (varE 0)) (varE 3) (constE (.bl false))))
    (retS (varE 2))
    nilS))
def B_Hall_ways : DS0 :=
  (consS (setS 2 (tupE nilA))
    (consS (forS (seqI (op2 (addD false) (tupE (consA (varE 1) nilA)) (fnE 1 (closeFn fn_above) (consA (varE 1) nilA)))) (nameG 3)
    Q_Hall_ways_1)
    (retS (varE 2))))
def fn_Hall_ways : Fn := runFn 4 B_Hall_ways
def B_level_word : DS0 :=
  (consS (setS 1 (callE min2F (consA (op2 fdivD (varE 0) (constE (.int 10))) (consA (op2 subD (callE lenF (consA (constE c_WORDS) nilA)) (constE (.int 1))) nilA))))
    (consS (setS 2 (op2 subD (varE 0) (op2 (mulD false) (constE (.int 10)) (varE 1))))
    (consS (ifS (cmpT eqD (varE 2) (constE (.int 0)))
    (retS (op2 ixD (constE c_WORDS) (varE 1)))
    nilS)
    (retS (joinE (consJ (fmtE (op2 ixD (constE c_WORDS) (varE 1))) (consJ (constE (.str [43])) (consJ (fmtE (varE 2)) nilJ))))))))
def fn_level_word : Fn := runFn 3 B_level_word
def B_field_text : DS0 :=
  (consS (ifS (cmpT eqD (varE 0) (constE (.str [109, 111, 109, 101, 110, 116])))
    (retS (callE strF (consA (op2 ixD (varE 1) (constE (.int 0))) nilA)))
    nilS)
    (consS (ifS (cmpT eqD (varE 0) (constE (.str [108, 101, 118, 101, 108])))
    (retS (fnE 1 (closeFn fn_level_word) (consA (op2 ixD (varE 1) (constE (.int 1))) nilA)))
    nilS)
    (consS (ifS (cmpT eqD (varE 0) (constE (.str [110, 97, 109, 101])))
    (retS (orE (op2 ixD (varE 1) (constE (.int 2))) (constE (.str [42]))))
    nilS)
    (retS (op2 ixD (varE 1) (constE (.int 3)))))))
def fn_field_text : Fn := runFn 2 B_field_text
def B_laid_part : DS0 :=
  (consS (ifS (cmpT eqD (op2 ixD (varE 0) (constE (.int 0))) (constE (.str [116, 101, 120, 116])))
    (retS (op2 ixD (varE 0) (constE (.int 1))))
    nilS)
    (consS (setS 2 (fnE 2 (closeFn fn_field_text) (consA (op2 ixD (varE 0) (constE (.int 1))) (consA (varE 1) nilA))))
    (consS (ifS (cmpT eqD (op2 ixD (varE 0) (constE (.int 2))) (constE (.str [60])))
    (retS (bmE tyStr ljust1F (varE 2) (consA (op2 ixD (varE 0) (constE (.int 3))) nilA)))
    nilS)
    (consS (ifS (cmpT eqD (op2 ixD (varE 0) (constE (.int 2))) (constE (.str [62])))
    (retS (bmE tyStr rjust1F (varE 2) (consA (op2 ixD (varE 0) (constE (.int 3))) nilA)))
    nilS)
    (consS (ifS (cmpT eqD (op2 ixD (varE 0) (constE (.int 2))) (constE (.str [61])))
    (retS (bmE tyStr ljust1F (slE false (varE 2) noP (someP (op2 ixD (varE 0) (constE (.int 3))))) (consA (op2 ixD (varE 0) (constE (.int 3))) nilA)))
    nilS)
    (retS (varE 2)))))))
def fn_laid_part : Fn := runFn 3 B_laid_part
def B_laid : DS0 :=
  (retS (bmE tyStr joinF (constE (.str [])) (consA (lcE false (seqI (fnE 1 (closeFn fn_read_form) (consA (varE 0) nilA))) (nameG 2) yesT (fnE 2 (closeFn fn_laid_part) (consA (varE 2) (consA (varE 1) nilA))) [2]) nilA)))
def fn_laid : Fn := runFn 3 B_laid
def B_is_under : DS0 :=
  (retS (orE (op2 (inB false) (varE 1) (tupE (consA (constE (.str [])) (consA (varE 0) nilA)))) (bmE tyStr startswithF (varE 0) (consA (op2 (addD false) (varE 1) (constE (.str [46]))) nilA))))
def fn_is_under : Fn := runFn 2 B_is_under
def B_passes (r_passes : Fn) : DS0 :=
  (consS (setS 2 (op2 ixD (varE 0) (constE (.int 0))))
    (consS (ifS (cmpT (inB false) (varE 2) (tupE (consA (constE (.str [121, 101, 115])) (consA (constE (.str [110, 111])) nilA))))
    (retS (op2 eqD (varE 2) (constE (.str [121, 101, 115]))))
    nilS)
    (consS (ifS (cmpT eqD (varE 2) (constE (.str [108, 101, 118, 101, 108])))
    (retS (op2 geD (op2 ixD (varE 1) (constE (.int 1))) (op2 ixD (varE 0) (constE (.int 1)))))
    nilS)
    (consS (ifS (cmpT eqD (varE 2) (constE (.str [117, 110, 100, 101, 114])))
    (retS (fnE 2 (closeFn fn_is_under) (consA (op2 ixD (varE 1) (constE (.int 2))) (consA (op2 ixD (varE 0) (constE (.int 1))) nilA))))
    nilS)
    (consS (ifS (cmpT eqD (varE 2) (constE (.str [104, 97, 115])))
    (retS (op2 (inB false) (op2 ixD (varE 0) (constE (.int 1))) (op2 ixD (varE 1) (constE (.int 3)))))
    nilS)
    (consS (ifS (cmpT eqD (varE 2) (constE (.str [110, 111, 116])))
    (retS (notE (fnE 2 (closeFn r_passes) (consA (op2 ixD (varE 0) (constE (.int 1))) (consA (varE 1) nilA)))))
    nilS)
    (consS (ifS (cmpT eqD (varE 2) (constE (.str [97, 110, 100])))
    (retS (andE (fnE 2 (closeFn r_passes) (consA (op2 ixD (varE 0) (constE (.int 1))) (consA (varE 1) nilA))) (fnE 2 (closeFn r_passes) (consA (op2 ixD (varE 0) (constE (.int 2))) (consA (varE 1) nilA)))))
    nilS)
    (retS (orE (fnE 2 (closeFn r_passes) (consA (op2 ixD (varE 0) (constE (.int 1))) (consA (varE 1) nilA))) (fnE 2 (closeFn r_passes) (consA (op2 ixD (varE 0) (constE (.int 2))) (consA (varE 1) nilA))))))))))))
def fn_passes : Nat → Fn
  | 0 => fun _ _ => .bad
  | n + 1 => runFn 3 (B_passes (fn_passes n))
def B_Writer_take : DS0 :=
  (consS (ifS (orT (cmpT ltD (op2 ixD (varE 1) (constE (.int 1))) (fldE att 13 (varE 0))) (notT (truT (fnE 2 (closeFn (fn_passes 100)) (consA (fldE att 14 (varE 0)) (consA (varE 1) nilA))))))
    (retS (constE (.bl false)))
    nilS)
    (consS (exprS (bmE tyLst appendF (fldE att 6 (varE 0)) (consA (fnE 2 (closeFn fn_laid) (consA (fldE att 15 (varE 0)) (consA (varE 1) nilA))) nilA)))
    (retS (constE (.bl true)))))
def fn_Writer_take : Fn := runFn 2 B_Writer_take
def Q_Hall_tell_1 : DS0 :=
  (ifS (andT (cmpT eqD (fldE att 12 (varE 5)) (varE 3)) (truT (methE 4 2 fn_Writer_take (varE 5) (consA (varE 1) nilA))))
    (setS 2 (op2 (addD false) (varE 2) (tupE (consA (varE 4) nilA))))
    nilS)
def Q_Hall_tell_2 : DS0 :=
  (forS (seqI (listItemsE (fldE att 18 (varE 0)))) (tupG 2 (consG (nameG 4) (consG (nameG 5) nilG)))
    Q_Hall_tell_1)
def B_Hall_tell : DS0 :=
  (consS (setS 2 (tupE nilA))
    (consS (ifS (truT (methE 5 3 fn_Hall_is_told (varE 0) (consA (op2 ixD (varE 1) (constE (.int 2))) (consA (op2 ixD (varE 1) (constE (.int 1))) nilA))))
    (forS (seqI (methE 5 2 fn_Hall_ways (varE 0) (consA (op2 ixD (varE 1) (constE (.int 2))) nilA))) (nameG 3)
    Q_Hall_tell_2)
    nilS)
    (retS (varE 2))))
def fn_Hall_tell : Fn := runFn 6 B_Hall_tell
def B__law_draw : DS0 :=
  (consS (exprS (bmE tyLst appendF (varE 1) (consA (constE (.int 0)) nilA)))
    (consS (setS 3 (callE lenF (consA (varE 1) nilA)))
    (consS (setS 4 (constE (.int 0)))
    (consS (ifS (truT (varE 0))
    (setS 4 (op2 ixD (varE 0) (op2 modD (varE 3) (callE lenF (consA (varE 0) nilA)))))
    nilS)
    (consS (setS 5 (op2 modD (op2 (addD false) (varE 4) (op2 (mulD false) (constE (.int 104729)) (varE 3))) (constE (.int 4294967291))))
    (consS (setS 5 (op2 modD (op2 (mulD false) (op2 modD (op2 (mulD false) (varE 5) (varE 5)) (constE (.int 4294967279))) (constE (.int 48271))) (constE (.int 4294967291))))
    (consS (setS 6 (op2 modD (op2 (mulD false) (op2 modD (op2 (mulD false) (varE 5) (varE 5)) (constE (.int 4294967279))) (constE (.int 69621))) (constE (.int 4294967291))))
    (retS (op2 modD (op2 (addD false) (op2 (mulD false) (op2 fdivD (varE 5) (constE (.int 64))) (constE (.int 67108864))) (op2 fdivD (varE 6) (constE (.int 64)))) (varE 2))))))))))
def fn__law_draw : Fn := runFn 7 B__law_draw
def B__law_pick : DS0 :=
  (retS (op2 ixD (varE 2) (fnE 3 fn__law_draw (consA (varE 0) (consA (varE 1) (consA (callE lenF (consA (varE 2) nilA)) nilA))))))
def fn__law_pick : Fn := runFn 3 B__law_pick
def B_strength : DS0 :=
  (consS (ifS (cmpT eqD (op2 ixD (varE 0) (constE (.int 0))) (constE (.str [111, 114])))
    (retS (constE (.int 0)))
    nilS)
    (consS (ifS (cmpT eqD (op2 ixD (varE 0) (constE (.int 0))) (constE (.str [97, 110, 100])))
    (retS (constE (.int 1)))
    nilS)
    (retS (constE (.int 2)))))
def fn_strength : Fn := runFn 1 B_strength
def B_shown_within (r_shown_within : Fn) (r_shown : Fn) : DS0 :=
  (consS (ifS (cmpT ltD (fnE 1 (closeFn fn_strength) (consA (varE 0) nilA)) (varE 1))
    (retS (joinE (consJ (constE (.str [40])) (consJ (fmtE (fnE 1 (closeFn r_shown) (consA (varE 0) nilA))) (consJ (constE (.str [41])) nilJ)))))
    nilS)
    (retS (fnE 1 (closeFn r_shown) (consA (varE 0) nilA))))
def B_shown (r_shown_within : Fn) (r_shown : Fn) : DS0 :=
  (consS (setS 1 (op2 ixD (varE 0) (constE (.int 0))))
    (consS (ifS (cmpT (inB false) (varE 1) (tupE (consA (constE (.str [121, 101, 115])) (consA (constE (.str [110, 111])) nilA))))
    (retS (varE 1))
    nilS)
    (consS (ifS (cmpT eqD (varE 1) (constE (.str [108, 101, 118, 101, 108])))
    (retS (joinE (consJ (constE (.str [108, 101, 118, 101, 108, 32])) (consJ (fmtE (op2 ixD (varE 0) (constE (.int 1)))) nilJ))))
    nilS)
    (consS (ifS (cmpT eqD (varE 1) (constE (.str [117, 110, 100, 101, 114])))
    (retS (op2 (addD false) (constE (.str [117, 110, 100, 101, 114, 32])) (orE (op2 ixD (varE 0) (constE (.int 1))) (constE (.str [42])))))
    nilS)
    (consS (ifS (cmpT eqD (varE 1) (constE (.str [104, 97, 115])))
    (retS (joinE (consJ (constE (.str [104, 97, 115, 32, 39])) (consJ (fmtE (op2 ixD (varE 0) (constE (.int 1)))) (consJ (constE (.str [39])) nilJ)))))
    nilS)
    (consS (ifS (cmpT eqD (varE 1) (constE (.str [110, 111, 116])))
    (retS (joinE (consJ (constE (.str [110, 111, 116, 32])) (consJ (fmtE (fnE 2 (closeFn r_shown_within) (consA (op2 ixD (varE 0) (constE (.int 1))) (consA (constE (.int 2)) nilA)))) nilJ))))
    nilS)
    (consS (setS 2 (fnE 1 (closeFn fn_strength) (consA (varE 0) nilA)))
    (retS (joinE (consJ (fmtE (fnE 2 (closeFn r_shown_within) (consA (op2 ixD (varE 0) (constE (.int 1))) (consA (varE 2) nilA)))) (consJ (constE (.str [32])) (consJ (fmtE (varE 1)) (consJ (constE (.str [32])) (consJ (fmtE (fnE 2 (closeFn r_shown_within) (consA (op2 ixD (varE 0) (constE (.int 2))) (consA (op2 (addD false) (varE 2) (constE (.int 1))) nilA)))) nilJ))))))))))))))
def grp_shown_within : Nat → Fn × Fn
  | 0 => (fun _ _ => .bad, fun _ _ => .bad)
  | n + 1 => let g := grp_shown_within n; (runFn 2 (B_shown_within g.1 g.2), runFn 3 (B_shown g.1 g.2))
def fn_shown_within (n : Nat) : Fn := (grp_shown_within n).1
def fn_shown (n : Nat) : Fn := (grp_shown_within n).2
end Dn.Lib
set_option linter.all false
set_option maxRecDepth 100000
namespace Dn
open PySem
theorem close_ok {fn : Fn} {ds : List D} {O O' : Sto} {d : D} (h1 : noObL ds = true) (h2 : fn ds [] = .ok d O') (h3 : noOb d = true) : closeFn fn ds O = .ok d O := by
  unfold closeFn
  rw [if_pos h1, h2]
  simp [h3]
end Dn
set_option linter.all false
set_option maxRecDepth 100000
namespace Dn
open PySem
section
variable {f g h : DE0} {fs gs : DS0} {c d : Rho → Sto → Res Bool} {fas : Rho → Sto → Res (List D)} {r : Rho} {O : Sto}
@[simp] theorem bind_ok' {α γ : Type} (a : α) (O : Sto) (k : α → Sto → Res γ) : (Res.ok a O).bind k = k a O := rfl
@[simp] theorem bind_ex' {α γ : Type} (e : Er) (O : Sto) (k : α → Sto → Res γ) : (Res.exc e O : Res α).bind k = .exc e O := rfl
@[simp] theorem bindS_ok' {α : Type} (a : α) (O : Sto) (r : Rho) (k : α → Sto → SR) : (Res.ok a O).bindS r k = k a O := rfl
@[simp] theorem bindS_ex' {α : Type} (e : Er) (O : Sto) (r : Rho) (k : α → Sto → SR) : (Res.exc e O : Res α).bindS r k = .exc e r O := rfl
@[simp] theorem bind_nx' (r : Rho) (O : Sto) (k : Rho → Sto → SR) : (SR.nx r O).bind k = k r O := rfl
@[simp] theorem bind_ret' (d : D) (O : Sto) (k : Rho → Sto → SR) : (SR.ret d O).bind k = .ret d O := rfl
@[simp] theorem bind_exc' (e : Er) (r : Rho) (O : Sto) (k : Rho → Sto → SR) : (SR.exc e r O).bind k = .exc e r O := rfl
@[simp] theorem bind_ct' (r : Rho) (O : Sto) (k : Rho → Sto → SR) : (SR.ct r O).bind k = .ct r O := rfl
@[simp] theorem bind_bk' (r : Rho) (O : Sto) (k : Rho → Sto → SR) : (SR.bk r O).bind k = .bk r O := rfl
@[simp] theorem ev_var {i : Nat} {d : D} (e : r[i]? = some (some d)) : varE i r O = .ok d O := by unfold varE; rw [e]
theorem ev_var' (i : Nat) (r : Rho) (O : Sto) : varE i r O = match r[i]? with | some (some d) => .ok d O | _ => .bad := rfl
@[simp] theorem ev_const (d : D) : constE d r O = .ok d O := rfl
@[simp] theorem ev_op2 (o : O2) : op2 o f g r O = (f r O).bind fun a O1 => (g r O1).bind fun b O2 => o a b O2 := rfl
@[simp] theorem ev_op1 (o : O1) : op1 o f r O = (f r O).bind fun a O1 => o a O1 := rfl
@[simp] theorem ev_truT : truT f r O = (f r O).bind truD := rfl
@[simp] theorem ev_cmpT (o : O2) : cmpT o f g r O = ((f r O).bind fun a O1 => (g r O1).bind fun b O2 => o a b O2).bind asB := rfl
@[simp] theorem ev_asB (b : Bool) : asB (.bl b) O = .ok b O := rfl
@[simp] theorem ev_andT : andT c d r O = (c r O).bind fun k O1 => if k then d r O1 else .ok false O1 := rfl
@[simp] theorem ev_orT : orT c d r O = (c r O).bind fun k O1 => if k then .ok true O1 else d r O1 := rfl
@[simp] theorem ev_notT : notT c r O = (c r O).bind fun k O1 => .ok (!k) O1 := rfl
@[simp] theorem ev_andE : andE f g r O = (f r O).bind fun d O1 => (truD d O1).bind fun k O2 => if k then g r O2 else .ok d O2 := rfl
@[simp] theorem ev_orE : orE f g r O = (f r O).bind fun d O1 => (truD d O1).bind fun k O2 => if k then .ok d O2 else g r O2 := rfl
@[simp] theorem ev_notE : notE f r O = (f r O).bind fun d O1 => (truD d O1).bind fun k O2 => .ok (.bl (!k)) O2 := rfl
@[simp] theorem ev_ifE : ifE c f g r O = (c r O).bind fun k O1 => if k then f r O1 else g r O1 := rfl
@[simp] theorem ev_chainT (o o' : O2) : chainT o o' f g h r O = (chainE o o' f g h r O).bind asB := rfl
@[simp] theorem ev_chainE (o o' : O2) : chainE o o' f g h r O = (f r O).bind fun a O1 => (g r O1).bind fun b O2 => (o a b O2).bind fun z O3 => (asB z O3).bind fun k O4 => if k then (h r O4).bind fun c O5 => o' b c O5 else .ok (.bl false) O4 := rfl
@[simp] theorem ev_nilA : nilA r O = .ok [] O := rfl
@[simp] theorem ev_consA : consA f fas r O = (f r O).bind fun d O1 => (fas r O1).bind fun ds O2 => .ok (d :: ds) O2 := rfl
@[simp] theorem ev_tupE : tupE fas r O = (fas r O).bind fun ds O1 => if ds.length ≤ sizeLine then .ok (.tup ds) O1 else .bad := rfl
@[simp] theorem ev_lstE (m : Bool) : lstE m fas r O = (fas r O).bind fun ds O1 => if ds.length ≤ sizeLine then mkL m ds O1 else .bad := rfl
@[simp] theorem ev_mkF (ds : List D) : mkL false ds O = .ok (.lst ds) O := rfl
@[simp] theorem ev_mkT (ds : List D) : mkL true ds O = .ok (.ob O.length) (O ++ [.lst ds]) := rfl
@[simp] theorem ev_slE (m : Bool) (l u : Rho → Sto → Res (Option Int)) : slE m f l u r O = (f r O).bind fun d O1 => (l r O1).bind fun lo O2 => (u r O2).bind fun hi O3 => slD m d lo hi O3 := rfl
@[simp] theorem ev_noP : noP r O = .ok none O := rfl
@[simp] theorem ev_someP : someP f r O = (f r O).bind asP := rfl
@[simp] theorem ev_asP (i : Int) : asP (.int i) O = .ok (some i) O := rfl
@[simp] theorem ev_callE (F : List D → Sto → ER) : callE F fas r O = (fas r O).bind F := rfl
@[simp] theorem ev_fnE (n : Nat) (F : Fn) : fnE n F fas r O = (fas r O).bind fun ds O1 => if ds.length = n then F ds O1 else .bad := rfl
@[simp] theorem ev_bmE (ty : D → Sto → Bool) (F : D → List D → Sto → ER) : bmE ty F f fas r O = (f r O).bind fun d O1 => if ty d O1 then (fas r O1).bind fun ds O2 => F d ds O2 else .bad := rfl
@[simp] theorem ev_methE (k n : Nat) (F : Fn) : methE k n F f fas r O = (f r O).bind fun d O1 => match d with
  | .ob l => (match O1[l]? with
    | some (.ins c' _) => if c' = k then (fas r O1).bind fun ds O2 => if ds.length + 1 = n then F (.ob l :: ds) O2 else .bad else .bad
    | _ => .bad)
  | _ => .bad := rfl
@[simp] theorem ev_makeE (k n : Nat) (F : Fn) : makeE k n F fas r O = (fas r O).bind fun ds O1 => if ds.length + 1 = n then (F (.ob O1.length :: ds) (O1 ++ [.ins k []])).bind (asNon O1.length) else .bad := rfl
@[simp] theorem ev_asNon (l : Nat) : asNon l .non O = .ok (.ob l) O := rfl
@[simp] theorem ev_fldE (a : Nat → Nat → Bool) (n : Nat) : fldE a n f r O = (f r O).bind fun d O1 => match d with
  | .ob l => (match O1[l]? with
    | some (.ins c fs) => if a c n then (match getFD n fs with | some d => .ok d O1 | none => .bad) else .bad
    | _ => .bad)
  | _ => .bad := rfl
@[simp] theorem ev_fldS (a : Nat → Nat → Bool) (n : Nat) : fldS a n f g r O = (g r O).bindS r fun d O1 => (f r O1).bindS r fun o O2 => match o with
  | .ob l => (match O2[l]? with
    | some (.ins c fs) => if a c n && decide (fs.length < 1000) then .nx r (O2.set l (.ins c (putFD n d fs))) else .bad
    | _ => .bad)
  | _ => .bad := rfl
@[simp] theorem ev_consS : consS fs gs r O = (fs r O).bind gs := rfl
@[simp] theorem ev_nilS : nilS r O = .nx r O := rfl
@[simp] theorem ev_exprS : exprS f r O = (f r O).bindS r fun _ O1 => .nx r O1 := rfl
@[simp] theorem ev_contS : contS r O = .ct r O := rfl
@[simp] theorem ev_retS : retS f r O = (f r O).bindS r fun d O1 => .ret d O1 := rfl
@[simp] theorem ev_ifS : ifS c fs gs r O = (c r O).bindS r fun k O1 => if k then fs r O1 else gs r O1 := rfl
@[simp] theorem ev_setS (i : Nat) : setS i f r O = (f r O).bindS r fun d O1 => .nx (r.set i (some d)) O1 := rfl
@[simp] theorem ev_asgS (t : TG0) : asgS t f r O = (f r O).bindS r fun d O1 => match t d r O1 with | some (r', O') => .nx r' O' | none => .bad := rfl
@[simp] theorem ev_nameG (i : Nat) (d : D) : nameG i d r O = some (r.set i (some d), O) := rfl
@[simp] theorem ev_nilG : nilG [] r O = some (r, O) := rfl
@[simp] theorem ev_consG (t : TG0) (ts : TGs0) (d : D) (ds : List D) : consG t ts (d :: ds) r O = match t d r O with | some (r1, O1) => ts ds r1 O1 | none => none := rfl
@[simp] theorem ev_tupG (n : Nat) (ts : TGs0) (ds : List D) : tupG n ts (.tup ds) r O = if ds.length = n then ts ds r O else none := rfl
@[simp] theorem ev_subG (d : D) : subG f g d r O = match f r O with
  | .ok a O1 => (match g r O1 with | .ok b O2 => (match stoD a b d O2 with | some O3 => some (r, O3) | none => none) | _ => none)
  | _ => none := rfl
@[simp] theorem ev_forS (src : Rho → Sto → Res Src) (t : TG0) : forS src t fs r O = (src r O).bindS r fun s O1 => forL t fs s.still s.items r O1 := rfl
@[simp] theorem ev_callI (F : List D → Sto → Res Src) : callI F fas r O = (fas r O).bind F := rfl
@[simp] theorem ev_seqI : seqI f r O = (f r O).bind srcD := rfl
@[simp] theorem ev_lcE (m : Bool) (src : Rho → Sto → Res Src) (t : TG0) (own : List Nat) : lcE m src t c f own r O = (src r O).bind fun s O1 => (lcL t c f s.still (wipeR r own) s.items [] O1).bind fun ds O2 => mkL m ds O2 := rfl
@[simp] theorem ev_yesT : yesT r O = .ok true O := rfl
@[simp] theorem op_addI (m : Bool) (i j : Int) : addD m (.int i) (.int j) O = .ok (.int (i + j)) O := rfl
@[simp] theorem op_addS (m : Bool) (x y : List Nat) : addD m (.str x) (.str y) O = if x.length + y.length ≤ sizeLine then .ok (.str (x ++ y)) O else .bad := rfl
@[simp] theorem op_addT (m : Bool) (x y : List D) : addD m (.tup x) (.tup y) O = if x.length + y.length ≤ sizeLine then .ok (.tup (x ++ y)) O else .bad := rfl
@[simp] theorem op_addL (m : Bool) (x y : List D) : addD m (.lst x) (.lst y) O = if x.length + y.length ≤ sizeLine then mkL m (x ++ y) O else .bad := rfl
@[simp] theorem op_subI (i j : Int) : subD (.int i) (.int j) O = .ok (.int (i - j)) O := rfl
@[simp] theorem op_modI (i j : Int) : modD (.int i) (.int j) O = if 0 < j then .ok (.int (i % j)) O else .bad := rfl
@[simp] theorem op_fdivI (i j : Int) : fdivD (.int i) (.int j) O = if 0 < j ∧ j < 1073741824 then .ok (.int (i / j)) O else .bad := rfl
@[simp] theorem op_negI (i : Int) : negD (.int i) O = .ok (.int (-i)) O := rfl
@[simp] theorem op_mulI (m : Bool) (i j : Int) : mulD m (.int i) (.int j) O = if mulOk i j then .ok (.int (i * j)) O else .bad := rfl
@[simp] theorem op_ltI (i j : Int) : ltD (.int i) (.int j) O = .ok (.bl (decide (i < j))) O := rfl
@[simp] theorem op_leI (i j : Int) : leD (.int i) (.int j) O = .ok (.bl (decide (i ≤ j))) O := rfl
@[simp] theorem op_gtI (i j : Int) : gtD (.int i) (.int j) O = .ok (.bl (decide (j < i))) O := rfl
@[simp] theorem op_geI (i j : Int) : geD (.int i) (.int j) O = .ok (.bl (decide (j ≤ i))) O := rfl
@[simp] theorem op_eqI (i j : Int) : eqD (.int i) (.int j) O = .ok (.bl (i == j)) O := by simp [eqD, quick, eqv]
@[simp] theorem op_neI (i j : Int) : neD (.int i) (.int j) O = .ok (.bl (!(i == j))) O := by simp [neD, quick, eqv]
@[simp] theorem op_eqS (x y : List Nat) : eqD (.str x) (.str y) O = .ok (.bl (x == y)) O := by simp [eqD, quick, eqv]
@[simp] theorem op_neS (x y : List Nat) : neD (.str x) (.str y) O = .ok (.bl (!(x == y))) O := by simp [neD, quick, eqv]
@[simp] theorem op_eqB (x y : Bool) : eqD (.bl x) (.bl y) O = .ok (.bl (x == y)) O := by simp [eqD, quick, eqv]
@[simp] theorem op_neB (x y : Bool) : neD (.bl x) (.bl y) O = .ok (.bl (!(x == y))) O := by simp [neD, quick, eqv]
@[simp] theorem op_isN (d : D) : isNoneD d .non O = .ok (.bl (isND d)) O := rfl
@[simp] theorem op_notN (d : D) : notNoneD d .non O = .ok (.bl (!isND d)) O := rfl
@[simp] theorem op_inS (n : Bool) (x y : List Nat) : inB n (.str x) (.str y) O = .ok (.bl (n != (hasSub x y && decide (x.length ≤ y.length)))) O := rfl
@[simp] theorem tru_non : truD .non O = .ok false O := rfl
@[simp] theorem tru_bl (b : Bool) : truD (.bl b) O = .ok b O := rfl
@[simp] theorem tru_int (i : Int) : truD (.int i) O = .ok (i != 0) O := rfl
@[simp] theorem tru_str (x : List Nat) : truD (.str x) O = if x.length ≤ sizeLine then .ok (!x.isEmpty) O else .bad := rfl
@[simp] theorem tru_tup (x : List D) : truD (.tup x) O = .ok (!x.isEmpty) O := rfl
@[simp] theorem tru_lst (x : List D) : truD (.lst x) O = .ok (!x.isEmpty) O := rfl
@[simp] theorem isND_non : isND .non = true := rfl
@[simp] theorem isND_bl (b : Bool) : isND (.bl b) = false := rfl
@[simp] theorem isND_int (b : Int) : isND (.int b) = false := rfl
@[simp] theorem isND_str (b : List Nat) : isND (.str b) = false := rfl
@[simp] theorem isND_tup (b : List D) : isND (.tup b) = false := rfl
@[simp] theorem isND_lst (b : List D) : isND (.lst b) = false := rfl
@[simp] theorem len_tup (x : List D) : lenF [.tup x] O = .ok (.int x.length) O := rfl
@[simp] theorem len_lst (x : List D) : lenF [.lst x] O = .ok (.int x.length) O := rfl
@[simp] theorem len_scr (x : List D) : lenF [.scr x] O = .ok (.int x.length) O := rfl
@[simp] theorem len_str (x : List Nat) : lenF [.str x] O = if x.length ≤ sizeLine then .ok (.int x.length) O else .bad := rfl
@[simp] theorem ix_tupI (x : List D) (i : Int) : ixD (.tup x) (.int i) O = match getI x i with | some d => .ok d O | none => .bad := rfl
@[simp] theorem ix_lstI (x : List D) (i : Int) : ixD (.lst x) (.int i) O = match getI x i with | some d => .ok d O | none => .bad := rfl
@[simp] theorem ix_scrI (x : List D) (i : Int) : ixD (.scr x) (.int i) O = match getI x i with | some d => .ok d O | none => .bad := rfl
theorem ix_obD {l : Nat} {kvs : List (DKey × D)} (h : O[l]? = some (.dic kvs)) (k : D) : ixD (.ob l) k O = match keyD k with | some k => (match getK kvs k with | some d => .ok d O | none => .bad) | none => .bad := by
  cases k <;> simp [ixD, dicOf, h] <;> rfl
@[simp] theorem sl_str (m : Bool) (x : List Nat) (a b : Option Int) : slD m (.str x) a b O = if x.length ≤ sizeLine then .ok (.str (cutD x a b)) O else .bad := rfl
@[simp] theorem sl_tup (m : Bool) (x : List D) (a b : Option Int) : slD m (.tup x) a b O = .ok (.tup (cutD x a b)) O := rfl
@[simp] theorem sl_lst (m : Bool) (x : List D) (a b : Option Int) : slD m (.lst x) a b O = mkL m (cutD x a b) O := rfl
@[simp] theorem sl_scr (m : Bool) (x : List D) (a b : Option Int) : slD m (.scr x) a b O = mkL m (cutD x a b) O := rfl
@[simp] theorem range1_int (j : Int) : range1F [.int j] O = if fits j then .ok ⟨rangeD 0 j, []⟩ O else .bad := rfl
@[simp] theorem range2_int (i j : Int) : range2F [.int i, .int j] O = if fits i && fits j then .ok ⟨rangeD i j, []⟩ O else .bad := rfl
@[simp] theorem enum_lst (x : List D) : enumF [.lst x] O = .ok ⟨enumD 0 x, []⟩ O := rfl
@[simp] theorem enum_scr (x : List D) : enumF [.scr x] O = .ok ⟨enumD 0 x, []⟩ O := rfl
@[simp] theorem still_nil : stillOk [] O = true := rfl
@[simp] theorem src_tup (x : List D) : srcD (.tup x) O = .ok ⟨x, []⟩ O := rfl
@[simp] theorem src_lst (x : List D) : srcD (.lst x) O = .ok ⟨x, []⟩ O := rfl
@[simp] theorem src_scr (x : List D) : srcD (.scr x) O = .ok ⟨x, []⟩ O := rfl
@[simp] theorem src_str (x : List Nat) : srcD (.str x) O = .ok ⟨x.map fun c => .str [c], []⟩ O := rfl
@[simp] theorem tuple_tup (x : List D) : tupleF [.tup x] O = .ok (.tup x) O := rfl
@[simp] theorem tuple_lst (x : List D) : tupleF [.lst x] O = .ok (.tup x) O := rfl
@[simp] theorem list_tup (m : Bool) (x : List D) : listF m [.tup x] O = mkL m x O := rfl
@[simp] theorem list_lst (m : Bool) (x : List D) : listF m [.lst x] O = mkL m x O := rfl
end
theorem sizeLine_nat : (sizeLine : Nat) = 16777216 := by decide
/-- an item at a place within -/
theorem getI_nat {ds : List D} {i : Int} (h0 : 0 ≤ i) (h1 : i < ds.length) : getI ds i = ds[i.toNat]? := by
  unfold getI L2.ixN
  rw [if_pos h0, if_pos h1]; rfl
/-- a loop that goes on to its end -/
theorem forL_inv {t : TG0} {b : DS0} {st : List (Nat × List D)} (I : Nat → Rho → Sto → Prop) : ∀ {items : List D} {k : Nat} {r : Rho} {O : Sto},
    (∀ i d r O, items[i]? = some d → I (k + i) r O → stillOk st O = true ∧ ∃ r1 O1 r2 O2, t d r O = some (r1, O1) ∧ (b r1 O1 = .nx r2 O2 ∨ b r1 O1 = .ct r2 O2) ∧ I (k + i + 1) r2 O2) →
    I k r O → (∀ r O, I (k + items.length) r O → stillOk st O = true) → ∃ r' O', forL t b st items r O = .nx r' O' ∧ I (k + items.length) r' O'
  | [], k, r, O, _, h0, he => ⟨r, O, by unfold forL; rw [if_pos (he r O h0)], h0⟩
  | d :: ds, k, r, O, h, h0, he => by
    obtain ⟨hs, r1, O1, r2, O2, e1, e2, h2⟩ := h 0 d r O rfl h0
    have ih := forL_inv I (items := ds) (k := k + 1) (r := r2) (O := O2) (t := t) (b := b) (st := st) (fun i d r O e => by
      have := h (i + 1) d r O (by simpa using e)
      rw [show k + 1 + i = k + (i + 1) from by omega]
      exact this) h2 (fun r O => by rw [show k + 1 + ds.length = k + (d :: ds).length from by simp; omega]; exact he r O)
    rw [show k + 1 + ds.length = k + (d :: ds).length from by simp; omega] at ih
    obtain ⟨r', O', e3, h3⟩ := ih
    refine ⟨r', O', ?_, h3⟩
    unfold forL
    rw [if_pos hs, e1]
    rcases e2 with e2 | e2 <;> simp only [e2] <;> exact e3
mutual
theorem eqv_rfl : ∀ d : D, pure' d = true → eqv d d = true
  | .non, _ => by simp [eqv]
  | .bl _, _ => by simp [eqv]
  | .int _, _ => by simp [eqv]
  | .str _, _ => by simp [eqv]
  | .tup ds, h => by simp only [eqv]; exact eqvL_rfl ds (by simpa [pure'] using h)
  | .lst ds, h => by simp only [eqv]; exact eqvL_rfl ds (by simpa [pure'] using h)
  | .scr _, h => by simp [pure'] at h
  | .ob _, h => by simp [pure'] at h
theorem eqvL_rfl : ∀ ds : List D, pureL ds = true → eqvL ds ds = true
  | [], _ => by simp [eqvL]
  | d :: ds, h => by
    simp only [pureL, Bool.and_eq_true] at h
    simp only [eqvL, eqv_rfl d h.1, eqvL_rfl ds h.2, Bool.and_true]
end
/-- data to be compared, of depth n at most -/
def okN (n : Nat) (d : D) : Bool := pure' d && ((toPy d).canLay0 && decide (dep d ≤ n))
theorem okD_of {n : Nat} (hn : n ≤ 64) {d : D} (h : okN n d = true) : okD d = true := by
  simp only [okN, okD, Bool.and_eq_true, decide_eq_true_eq] at h ⊢
  exact ⟨h.1, h.2.1, by omega⟩
theorem okN_tup {n : Nat} {ds : List D} (h : ∀ d ∈ ds, okN n d = true) : okN (n + 1) (.tup ds) = true := by
  have : pureL ds = true ∧ PyData.canLayAll0 (toPyL ds) = true ∧ depL ds ≤ n := by
    induction ds with
    | nil => simp [pureL, toPyL, PyData.canLayAll0, depL]
    | cons d ds ih =>
      obtain ⟨i1, i2, i3⟩ := ih fun x hx => h x (by simp [hx])
      have hd := h d (by simp)
      simp only [okN, Bool.and_eq_true, decide_eq_true_eq] at hd
      simp only [pureL, toPyL, PyData.canLayAll0, depL, Bool.and_eq_true]
      exact ⟨⟨hd.1, i1⟩, ⟨hd.2.1, i2⟩, Nat.max_le.mpr ⟨hd.2.2, i3⟩⟩
  simp only [okN, pure', toPy, PyData.canLay0, dep, Bool.and_eq_true, decide_eq_true_eq]
  exact ⟨this.1, this.2.1, decide_eq_true (Nat.succ_le_succ this.2.2)⟩
/-- equal tuples -/
theorem ne_same {d : D} {O : Sto} {n : Nat} (hn : n ≤ 64) (h : okN n d = true) (hu : unob d O = d) (hq : quick d d = false) : neD d d O = .ok (.bl false) O := by
  have h1 := okD_of hn h
  have hp : pure' d = true := by
    simp only [okN, Bool.and_eq_true] at h
    exact h.1
  unfold neD
  rw [hq, hu, h1, eqv_rfl d hp]
  simp
theorem ne_tup {ds : List D} {O : Sto} {n : Nat} (hn : n ≤ 64) (h : okN n (.tup ds) = true) : neD (.tup ds) (.tup ds) O = .ok (.bl false) O := ne_same hn h rfl rfl
theorem getI_some {ds : List D} {v : Int} (h0 : 0 ≤ v) (h1 : v < ds.length) : ∃ d, d ∈ ds ∧ getI ds v = some d := by
  rw [getI_nat h0 h1]
  exact ⟨ds[v.toNat]'(by omega), List.getElem_mem _, by simp <;> omega⟩
@[simp] theorem getI_0 (a : D) (ds : List D) : getI (a :: ds) 0 = some a := by rw [getI_nat (by omega) (by simp <;> omega)]; rfl
@[simp] theorem getI_1 (a b : D) (ds : List D) : getI (a :: b :: ds) 1 = some b := by rw [getI_nat (by omega) (by simp <;> omega)]; rfl
@[simp] theorem getI_2 (a b c : D) (ds : List D) : getI (a :: b :: c :: ds) 2 = some c := by rw [getI_nat (by omega) (by simp <;> omega)]; rfl
@[simp] theorem getI_3 (a b c d : D) (ds : List D) : getI (a :: b :: c :: d :: ds) 3 = some d := by rw [getI_nat (by omega) (by simp <;> omega)]; rfl
theorem runFn_eq (n : Nat) (B : DS0) (ds : List D) (O : Sto) : runFn n B ds O = match B (ds.map some ++ List.replicate (n - ds.length) none) O with
  | .nx _ O' => .ok .non O' | .ret d O' => .ok d O' | .exc e _ O' => .exc e O' | .bk _ _ => .bad | .ct _ _ => .bad | .bad => .bad := rfl
@[simp] theorem ixN_lt (n : Nat) (j : Nat) (h : j < n) : L2.ixN n (j : Int) = some j := by unfold L2.ixN; rw [if_pos (by omega), if_pos (by omega)]; simp
theorem okN_str {n : Nat} (x : List Nat) (h : ∀ c ∈ x, c < 1114112) : okN n (.str x) = true := by
  simp only [okN, pure', toPy, PyData.canLay0, dep, PyData.strOk, Bool.and_eq_true]
  refine ⟨trivial, ?_, by simp⟩
  rw [Array.all_eq_true']
  intro c hc
  exact decide_eq_true (h c (by simpa using hc))
theorem okN_int {n : Nat} (i : Int) : okN n (.int i) = true := by simp [okN, pure', toPy, PyData.canLay0, dep]
@[simp] theorem ixN_20 : L2.ixN 2 0 = some 0 := rfl
@[simp] theorem ixN_21 : L2.ixN 2 1 = some 1 := rfl
end Dn
set_option linter.all false
set_option maxRecDepth 100000
namespace Dn
open PySem
end Dn
set_option linter.all false
set_option maxRecDepth 100000
namespace Dn
open PySem
abbrev town (t : Nat) : Cell := .lst (List.replicate t (.int 0))
def TownAt (O : Sto) (t : Nat) : Prop := O[0]? = some (town t)
/-- nothing but the town has changed -/
structure Off (O O' : Sto) : Prop where
  len : O'.length = O.length
  at' : ∀ l, l ≠ 0 → O'[l]? = O[l]?
theorem Off.refl (O : Sto) : Off O O := ⟨rfl, fun _ _ => rfl⟩
theorem Off.trans {O O' O'' : Sto} (a : Off O O') (b : Off O' O'') : Off O O'' := ⟨b.len.trans a.len, fun l h => (b.at' l h).trans (a.at' l h)⟩
theorem lt_of_get {O : Sto} {l : Nat} {c : Cell} (h : O[l]? = some c) : l < O.length := by
  rcases Nat.lt_or_ge l O.length with q | q
  · exact q
  · rw [List.getElem?_eq_none q] at h; cases h
/-- the words that draw, whatever their numbers -/
def B_drw (a p q b d e s : Int) : DS0 :=
  (consS (exprS (bmE tyLst appendF (varE 1) (consA (constE (.int 0)) nilA)))
    (consS (setS 3 (callE lenF (consA (varE 1) nilA)))
    (consS (setS 4 (constE (.int 0)))
    (consS (ifS (truT (varE 0))
    (setS 4 (op2 ixD (varE 0) (op2 modD (varE 3) (callE lenF (consA (varE 0) nilA)))))
    nilS)
    (consS (setS 5 (op2 modD (op2 (addD false) (varE 4) (op2 (mulD false) (constE (.int a)) (varE 3))) (constE (.int p))))
    (consS (setS 5 (op2 modD (op2 (mulD false) (op2 modD (op2 (mulD false) (varE 5) (varE 5)) (constE (.int q))) (constE (.int b))) (constE (.int p))))
    (consS (setS 6 (op2 modD (op2 (mulD false) (op2 modD (op2 (mulD false) (varE 5) (varE 5)) (constE (.int q))) (constE (.int d))) (constE (.int p))))
    (retS (op2 modD (op2 (addD false) (op2 (mulD false) (op2 fdivD (varE 5) (constE (.int s))) (constE (.int e))) (op2 fdivD (varE 6) (constE (.int s)))) (varE 2))))))))))
def drwN (a p q b c k : Int) : Int := (c + a * k) % p * ((c + a * k) % p) % q * b % p
def drwV (a p q b d e s c k m : Int) : Int := (drwN a p q b c k / s * e + drwN a p q b c k * drwN a p q b c k % q * d % p / s) % m
theorem drw_ok {a p q b d e s : Int} (hp : 0 < p) (hq : 0 < q) (hs1 : 0 < s ∧ s < 1073741824) (m1 : ∀ x, mulOk a x = true) (m2 : ∀ x, mulOk (x % p) (x % p) = true) (m3 : ∀ x, mulOk (x % q) b = true) (m4 : ∀ x, mulOk (x % q) d = true) (m5 : ∀ x, mulOk x e = true)
    (ns : List Int) {O : Sto} {t : Nat} {m : Int} (hm : 0 < m) (ht : t < 1000000) (hT : TownAt O t) :
    ∃ c : Int, runFn 7 (B_drw a p q b d e s) [.scr (ns.map D.int), .ob 0, .int m] O = .ok (.int (drwV a p q b d e s c ((t : Int) + 1) m)) (O.set 0 (town (t + 1))) := by
  have hl := lt_of_get hT
  unfold TownAt at hT
  have hz : t < sizeLine := by rw [sizeLine_nat]; omega
  have h0 : ∀ c : Cell, (O.set 0 c)[0]? = some c := fun c => by simp [hl]
  have hr : List.replicate t (D.int 0) ++ [D.int 0] = List.replicate (t + 1) (D.int 0) := by rw [List.replicate_succ']
  by_cases hn : ns = []
  · subst hn
    refine ⟨0, ?_⟩
    simp [drwV, drwN, runFn_eq, B_drw, tyLst, listR, listS, hT, appendF, hz, hr, h0, lenF, lenD, seqR, truD, mulD, m1, m2, m3, m4, m5, hm, hp, hq, hs1]
  · have hlen : 0 < ns.length := List.length_pos_iff.mpr hn
    have hi : ∃ c : Int, getI (ns.map D.int) (((t + 1 : Nat) : Int) % (ns.length : Int)) = some (.int c) := by
      have a1 := Int.emod_nonneg ((t + 1 : Nat) : Int) (show (ns.length : Int) ≠ 0 by omega)
      have a2 := Int.emod_lt_of_pos ((t + 1 : Nat) : Int) (show (0 : Int) < (ns.length : Int) by omega)
      obtain ⟨d, hd, e⟩ := getI_some (ds := ns.map D.int) a1 (by simpa using a2)
      obtain ⟨c, _, rfl⟩ := List.mem_map.mp hd
      exact ⟨c, e⟩
    obtain ⟨c, hi⟩ := hi
    simp only [Int.natCast_add, Int.natCast_one] at hi
    refine ⟨c, ?_⟩
    simp [drwV, drwN, runFn_eq, B_drw, tyLst, listR, listS, hT, appendF, hz, hr, h0, lenF, lenD, seqR, truD, mulD, m1, m2, m3, m4, m5, hm, hp, hq, hs1, hn, hlen, hi]
theorem draw_ok (ns : List Int) {O : Sto} {t : Nat} {m : Int} (hm : 0 < m) (ht : t < 1000000) (hT : TownAt O t) :
    ∃ v O', 0 ≤ v ∧ v < m ∧ Lib.fn__law_draw [.scr (ns.map D.int), .ob 0, .int m] O = .ok (.int v) O' ∧ TownAt O' (t + 1) ∧ Off O O' := by
  have hl := lt_of_get hT
  obtain ⟨c, key⟩ := drw_ok (a := 104729) (p := 4294967291) (q := 4294967279) (b := 48271) (d := 69621) (e := 67108864) (s := 64) (by omega) (by omega) (by omega)
    (fun s => by simp [mulOk]) (fun n => by simp [mulOk]; omega) (fun n => by simp [mulOk]) (fun n => by simp [mulOk]) (fun n => by simp [mulOk]) ns hm ht hT
  refine ⟨_, _, ?_, ?_, key, by unfold TownAt; simp [hl], by simp, fun l h => by simp [List.getElem?_set, Ne.symm h]⟩
  · exact Int.emod_nonneg _ (by omega)
  · exact Int.emod_lt_of_pos _ hm
/-- one of some -/
theorem pick_ok (ns : List Int) {O : Sto} {t : Nat} {ds : List D} (hd : ds ≠ []) (ht : t < 1000000) (hT : TownAt O t) :
    ∃ d O', d ∈ ds ∧ Lib.fn__law_pick [.scr (ns.map D.int), .ob 0, .lst ds] O = .ok d O' ∧ TownAt O' (t + 1) ∧ Off O O' := by
  have hl : 0 < ds.length := List.length_pos_iff.mpr hd
  obtain ⟨v, O', h0, h1, e, hT', ho⟩ := draw_ok ns (m := ds.length) (by omega) ht hT
  obtain ⟨d, hm, e2⟩ := getI_some h0 h1
  exact ⟨d, O', hm, by simp [Lib.fn__law_pick, runFn_eq, Lib.B__law_pick, e, e2], hT', ho⟩
/-- a list written by a loop -/
theorem lcL_inv {t : TG0} {el : DE0} {st : List (Nat × List D)} {r : Rho} (I : Nat → Sto → Prop) (P : D → Prop) : ∀ {items acc : List D} {k : Nat} {O : Sto},
    (∀ i d O, items[i]? = some d → I (k + i) O → ∃ r1 y O', t d r O = some (r1, O) ∧ el r1 O = .ok y O' ∧ P y ∧ I (k + i + 1) O') →
    I k O → (∀ k O, I k O → stillOk st O = true) → acc.length + items.length ≤ sizeLine →
    ∃ ys O', lcL t yesT el st r items acc O = .ok (acc ++ ys) O' ∧ ys.length = items.length ∧ (∀ y ∈ ys, P y) ∧ I (k + items.length) O'
  | [], acc, k, O, _, h0, hs, _ => ⟨[], O, by unfold lcL; rw [if_pos (hs _ _ h0)]; simp, rfl, by simp, h0⟩
  | d :: ds, acc, k, O, h, h0, hs, hl => by
    obtain ⟨r1, y, O', e1, e2, hp, hi⟩ := h 0 d O rfl h0
    simp only [List.length_cons] at hl
    obtain ⟨ys, O'', e3, e4, e5, e6⟩ := lcL_inv I P (items := ds) (acc := acc ++ [y]) (k := k + 1) (O := O') (fun i x O hx hI => by
      have := h (i + 1) x O (by simpa using hx) (by rw [show k + (i + 1) = k + 1 + i from by omega]; exact hI)
      rw [show k + 1 + i + 1 = k + (i + 1) + 1 from by omega]
      exact this) hi hs (by simp; omega)
    refine ⟨y :: ys, O'', ?_, by simp [e4], fun z hz => ?_, by rw [show k + (d :: ds).length = k + 1 + ds.length from by simp; omega]; exact e6⟩
    · unfold lcL
      rw [if_pos (hs _ _ h0), e1]
      simp only [yesT]
      rw [e2]
      simp only []
      rw [if_pos (by omega), e3]
      simp
    · simp only [List.mem_cons] at hz
      rcases hz with rfl | hz
      · exact hp
      · exact e5 z hz
theorem eq_same {d : D} {O : Sto} {n : Nat} (hn : n ≤ 64) (h : okN n d = true) (hu : unob d O = d) (hq : quick d d = false) : eqD d d O = .ok (.bl true) O := by
  have h1 := okD_of hn h
  have hp : pure' d = true := by
    simp only [okN, Bool.and_eq_true] at h
    exact h.1
  unfold eqD
  rw [hq, hu, h1, eqv_rfl d hp]
  simp
theorem eq_tup {ds : List D} {O : Sto} {n : Nat} (hn : n ≤ 64) (h : okN n (.tup ds) = true) : eqD (.tup ds) (.tup ds) O = .ok (.bl true) O := eq_same hn h rfl rfl
@[simp] theorem eq_nil (O : Sto) : eqD (.tup []) (.tup []) O = .ok (.bl true) O := eq_tup (n := 1) (by omega) (okN_tup (by simp))
@[simp] theorem ne_nil (O : Sto) : neD (.tup []) (.tup []) O = .ok (.bl false) O := ne_tup (n := 1) (by omega) (okN_tup (by simp))
end Dn
set_option linter.all false
set_option maxRecDepth 100000
namespace Dn
open PySem
theorem lcL_map {α : Type} {t : TG0} {el : DE0} {st : List (Nat × List D)} {r : Rho} {O : Sto} (e f : α → D) (hst : stillOk st O = true) : ∀ (xs : List α) (acc : List D),
    (∀ a ∈ xs, ∃ r1, t (e a) r O = some (r1, O) ∧ el r1 O = .ok (f a) O) → acc.length + xs.length ≤ sizeLine → lcL t yesT el st r (xs.map e) acc O = .ok (acc ++ xs.map f) O
  | [], acc, _, _ => by simp [lcL, hst]
  | a :: xs, acc, h, hl => by
    obtain ⟨r1, e1, e2⟩ := h a (by simp)
    simp only [List.length_cons] at hl
    have ih := lcL_map e f hst (t := t) (el := el) (r := r) xs (acc ++ [f a]) (fun b hb => h b (by simp [hb])) (by simp; omega)
    rw [List.map_cons]
    unfold lcL
    rw [if_pos hst, e1]
    simp only [yesT]
    rw [e2]
    simp only []
    rw [if_pos (by omega)]
    have ih' := ih
    simp only [List.append_assoc, List.singleton_append] at ih'
    rw [List.map_cons]
    exact ih'
theorem lcL_filter {α : Type} {t : TG0} {c : Rho → Sto → Res Bool} {el : DE0} {st : List (Nat × List D)} {r : Rho} {O : Sto} (e f : α → D) (g : α → Bool) (hst : stillOk st O = true) : ∀ (xs : List α) (acc : List D),
    (∀ a ∈ xs, ∃ r1, t (e a) r O = some (r1, O) ∧ c r1 O = .ok (g a) O ∧ el r1 O = .ok (f a) O) → acc.length + xs.length ≤ sizeLine → lcL t c el st r (xs.map e) acc O = .ok (acc ++ (xs.filter g).map f) O
  | [], acc, _, _ => by simp [lcL, hst]
  | a :: xs, acc, h, hl => by
    obtain ⟨r1, e1, e2, e3⟩ := h a (by simp)
    simp only [List.length_cons] at hl
    rw [List.map_cons]
    unfold lcL
    rw [if_pos hst, e1]
    simp only []
    rw [e2]
    cases q : g a with
    | true =>
      have ih := lcL_filter e f g hst (t := t) (c := c) (el := el) (r := r) xs (acc ++ [f a]) (fun b hb => h b (by simp [hb])) (by simp; omega)
      simp only []
      rw [e3]
      simp only []
      rw [if_pos (by omega), List.filter_cons, if_pos q, List.map_cons]
      simpa using ih
    | false =>
      have ih := lcL_filter e f g hst (t := t) (c := c) (el := el) (r := r) xs acc (fun b hb => h b (by simp [hb])) (by omega)
      simp only []
      rw [List.filter_cons, if_neg (by rw [q]; decide)]
      exact ih
theorem strsD_map : ∀ ps : List (List Nat), strsD (ps.map D.str) = some ps
  | [] => rfl
  | p :: ps => by simp [strsD, strsD_map ps]
theorem join_lst (a : List Nat) (ps : List (List Nat)) (O : Sto) (h : (ps.map (·.length)).sum + ps.length * a.length ≤ 16777216) : joinF (.str a) [.lst (ps.map D.str)] O = .ok (.str (TL.joinL a ps)) O := by
  simp only [joinF, seqR, listR, listS, strsD_map]
  rw [if_pos h]
theorem split_dot (x : List Nat) (O : Sto) (h : x.length ≤ 16000000) : splitF false (.str x) [.str [46]] O = .ok (.lst ((TL.spl [46] 0 [] x).map D.str)) O := by
  simp [splitF, h]
theorem bls_map {α : Type} (xs : List α) (g : α → Bool) : bls (xs.map fun a => D.bl (g a)) = some (xs.map g) := by
  induction xs with
  | nil => rfl
  | cons a l ih => simp [bls, blD, ih]
theorem all_map {α : Type} (xs : List α) (g : α → Bool) (O : Sto) : allF [.lst (xs.map fun a => D.bl (g a))] O = .ok (.bl (xs.all g)) O := by
  simp [allF, listR, listS, bls_map, Function.comp_def]
theorem any_map {α : Type} (xs : List α) (g : α → Bool) (O : Sto) : anyF [.lst (xs.map fun a => D.bl (g a))] O = .ok (.bl (xs.any g)) O := by
  simp [anyF, listR, listS, bls_map, Function.comp_def]
theorem cut_take {α : Type} (xs : List α) {k : Nat} (h : k ≤ xs.length) : cutD xs none (some (k : Int)) = xs.take k := by
  simp only [cutD, HT.sIx]
  rw [if_neg (by omega), List.drop_zero, Int.toNat_natCast, Nat.min_eq_left h, Nat.sub_zero]
theorem cut_last {α : Type} (xs : List α) : cutD xs none (some (-1)) = xs.take (xs.length - 1) := by
  simp only [cutD, HT.sIx]
  rw [if_pos (by omega), List.drop_zero]
  congr 1
  omega
theorem down_succ (n : Nat) : downD ((n + 1 : Nat) - 1 : Int) (-1) = .int n :: downD ((n : Int) - 1) (-1) := by
  unfold downD
  rw [show (((n + 1 : Nat) : Int) - 1 - (-1)).toNat = n + 1 from by omega, show ((n : Int) - 1 - (-1)).toNat = n from by omega, List.range_succ_eq_map]
  simp only [List.map_cons, List.map_map]
  have h1 : (D.int (((n + 1 : Nat) : Int) - 1 - ((0 : Nat) : Int))) = .int n := by congr 1; omega
  rw [h1]
  refine congrArg _ (List.map_congr_left fun k _ => ?_)
  simp only [Function.comp_apply]
  congr 1
  omega
end Dn
set_option linter.all false
set_option maxRecDepth 100000
namespace Dn
open PySem
section
variable {fs gs : DS0} {c : Rho → Sto → Res Bool} {b : DS0} {r r1 r2 : Rho} {O O1 O2 : Sto} {x : SR} {d : D} {e : Er} {n : Nat}
theorem cs_nx (h : fs r O = .nx r1 O1) (k : gs r1 O1 = x) : consS fs gs r O = x := by rw [ev_consS, h]; exact k
theorem cs_ret (h : fs r O = .ret d O1) : consS fs gs r O = .ret d O1 := by rw [ev_consS, h]; rfl
theorem cs_exc (h : fs r O = .exc e r1 O1) : consS fs gs r O = .exc e r1 O1 := by rw [ev_consS, h]; rfl
theorem if_t (h : c r O = .ok true O1) (k : fs r O1 = x) : ifS c fs gs r O = x := by rw [ev_ifS, h]; exact k
theorem if_f (h : c r O = .ok false O1) (k : gs r O1 = x) : ifS c fs gs r O = x := by rw [ev_ifS, h]; exact k
theorem while_t (hc : c r O = .ok true O1) (hb : b r O1 = .nx r2 O2) (k : whileL c b n r2 O2 = x) : whileL c b (n + 1) r O = x := by
  unfold whileL; rw [hc]; simp only [bindS_ok', if_true, hb]; exact k
theorem while_f (hc : c r O = .ok false O1) : whileL c b (n + 1) r O = .nx r O1 := by
  unfold whileL; rw [hc]; simp
theorem while_exc (hc : c r O = .ok true O1) (hb : b r O1 = .exc e r2 O2) : whileL c b (n + 1) r O = .exc e r2 O2 := by
  unfold whileL; rw [hc]; simp only [bindS_ok', if_true, hb]
theorem ev_whileS : whileS n c b r O = whileL c b n r O := rfl
end
theorem numT_nat (n : Nat) : numT (n : Int) = TL.numL n := by
  rw [← TL.tl_num n]
  unfold numT
  rw [TL.tl_ofString]
theorem digit_lt {n : Nat} : ∀ c ∈ TL.numL n, 48 ≤ c ∧ c ≤ 57 := by
  induction n using Nat.strongRecOn with
  | _ n ih =>
    intro c hc
    by_cases h : n < 10
    · rw [TL.numL_lt h] at hc
      simp at hc; omega
    · rw [TL.numL_step (by omega)] at hc
      rcases List.mem_append.mp hc with hc | hc
      · exact ih (n / 10) (by omega) c hc
      · simp at hc; omega
open NumText in
theorem dv_app (a : List Nat) (c : Nat) : digitsVal (a ++ [c]) = digitsVal a * 10 + (c - 48) := by
  unfold digitsVal; rw [List.foldl_append]; rfl
open NumText in
theorem dv_num (n : Nat) : digitsVal (TL.numL n) = n := by
  induction n using Nat.strongRecOn with
  | _ n ih =>
    by_cases h : n < 10
    · rw [TL.numL_lt h]; unfold digitsVal; simp
    · rw [TL.numL_step (by omega), dv_app, ih (n / 10) (by omega)]; omega
open NumText in
theorem int_digits {a : List Nat} (h : ∀ c ∈ a, 48 ≤ c ∧ c ≤ 57) (h1 : a ≠ []) (h2 : a.length ≤ 640) (O : Sto) : intF [.str a] O = .ok (.int (digitsVal a)) O := by
  have := intText_digits (x := mkS a) h h1 (by rw [len_mkS]; omega)
  simp only [intF]
  rw [if_pos h2, this]
theorem numL_len {n k : Nat} (h : n < 10 ^ k) (hk : 0 < k) : (TL.numL n).length ≤ k := by
  induction k generalizing n with
  | zero => omega
  | succ k ih =>
    by_cases h1 : n < 10
    · rw [TL.numL_lt h1]; simp
    · rw [TL.numL_step (by omega)]
      by_cases hk0 : k = 0
      · subst hk0; omega
      · have := ih (n := n / 10) (by rw [Nat.pow_succ] at h; omega) (by omega)
        simp; omega
theorem numL_ne (n : Nat) : TL.numL n ≠ [] := by
  by_cases h : n < 10
  · rw [TL.numL_lt h]; simp
  · rw [TL.numL_step (by omega)]; simp
/-- no needless 0 ahead -/
theorem numL_head (n : Nat) : (TL.numL n).head? = some 48 → n = 0 := by
  induction n using Nat.strongRecOn with
  | _ n ih =>
    intro h
    by_cases h1 : n < 10
    · rw [TL.numL_lt h1] at h
      simp at h; exact h
    · rw [TL.numL_step (by omega)] at h
      have h2 : (TL.numL (n / 10)).head? = some 48 := by
        cases q : TL.numL (n / 10) with
        | nil => exact absurd q (numL_ne _)
        | cons a l => rw [q] at h; simpa using h
      have := ih (n / 10) (by omega) h2
      omega
theorem log2_small {i : Int} (h0 : 0 ≤ i) (h : i < 1000000000000) : i.natAbs.log2 < 1920 := by
  have h1 : i.natAbs < 2 ^ 40 := by
    have : (2 : Nat) ^ 40 = 1099511627776 := by decide
    omega
  by_cases h2 : i.natAbs = 0
  · rw [h2]; decide
  · have := (Nat.log2_lt h2).mpr h1
    omega
end Dn
namespace Dn
open PySem
@[simp] theorem tru_scr (x : List D) (O : Sto) : truD (.scr x) O = .ok (!x.isEmpty) O := rfl
theorem cut_takeN {α : Type} (xs : List α) (k : Nat) : cutD xs none (some (k : Int)) = xs.take k := by
  simp only [cutD, HT.sIx]
  rw [if_neg (by omega), List.drop_zero, Int.toNat_natCast, Nat.sub_zero]
  by_cases h : k ≤ xs.length
  · rw [Nat.min_eq_left h]
  · rw [Nat.min_eq_right (by omega), List.take_of_length_le (by omega), List.take_of_length_le (by omega)]
theorem cut_dropN {α : Type} (xs : List α) (k : Nat) : cutD xs (some (k : Int)) none = xs.drop k := by
  simp only [cutD, HT.sIx]
  rw [if_neg (by omega), Int.toNat_natCast]
  by_cases h : k ≤ xs.length
  · rw [Nat.min_eq_left h, List.take_of_length_le (by simp)]
  · rw [Nat.min_eq_right (by omega), List.drop_eq_nil_of_le (Nat.le_refl _), List.drop_eq_nil_of_le (by omega)]; simp
@[simp] theorem cut_take1 {α : Type} (xs : List α) : cutD xs none (some 1) = xs.take 1 := cut_takeN xs 1
@[simp] theorem cut_drop1 {α : Type} (xs : List α) : cutD xs (some 1) none = xs.drop 1 := cut_dropN xs 1
theorem sub_one (c : Nat) (y : List Nat) : hasSub [c] y = y.contains c := by
  rw [Bool.eq_iff_iff]
  simp only [hasSub, List.any_eq_true, List.contains_iff_mem, List.mem_range, List.length_singleton]
  constructor
  · rintro ⟨i, _, e⟩
    have e2 := eq_of_beq e
    have : c ∈ (y.drop i).take 1 := by rw [e2]; simp
    exact List.mem_of_mem_drop (List.mem_of_mem_take this)
  · intro h
    obtain ⟨i, hi, e⟩ := List.getElem_of_mem h
    refine ⟨i, by omega, ?_⟩
    rw [beq_iff_eq, List.drop_eq_getElem_cons hi, e]; rfl
theorem close_exc {fn : Fn} {ds : List D} {O O' : Sto} {e : Er} (h1 : noObL ds = true) (h2 : fn ds [] = .exc e O') (h3 : noObF e.fs = true) : closeFn fn ds O = .exc e O := by
  unfold closeFn
  rw [if_pos h1, h2]
  simp [h3]
theorem getI_last {xs : List D} (h : xs ≠ []) : getI xs (-1) = some (xs.getLast h) := by
  have hl : 0 < xs.length := List.length_pos_iff.mpr h
  unfold getI
  have : L2.ixN xs.length (-1) = some (xs.length - 1) := by
    unfold L2.ixN
    rw [if_neg (by omega), if_pos (by omega)]
    congr 1; omega
  rw [this]
  simp [List.getLast_eq_getElem, List.getElem?_eq_getElem (show xs.length - 1 < xs.length by omega)]
end Dn
namespace Dn
open PySem
theorem strs_ex {Q : List Nat → Prop} : ∀ {ws : List D}, (∀ w ∈ ws, ∃ x, w = .str x ∧ Q x) → ∃ xs : List (List Nat), ws = xs.map D.str ∧ ∀ x ∈ xs, Q x
  | [], _ => ⟨[], rfl, by simp⟩
  | w :: ws, h => by
    obtain ⟨x, rfl, hx⟩ := h w (by simp)
    obtain ⟨xs, rfl, hxs⟩ := strs_ex (ws := ws) fun v hv => h v (by simp [hv])
    refine ⟨x :: xs, rfl, fun y hy => ?_⟩
    rcases List.mem_cons.mp hy with rfl | hy
    · exact hx
    · exact hxs y hy
end Dn
namespace Dn
open PySem
def JP (j : DJ0) (r : Rho) (O : Sto) (xs : List (List Nat)) : Prop := ∀ acc : List Nat, acc.length + (xs.map (·.length)).sum ≤ sizeLine → j acc r O = .ok (.str (acc ++ xs.flatten)) O
theorem jp_nil {r : Rho} {O : Sto} : JP nilJ r O [] := fun acc _ => by simp [nilJ]
theorem jp_cons {f : DE0} {j : DJ0} {r : Rho} {O : Sto} {x : List Nat} {xs : List (List Nat)} (h : f r O = .ok (.str x) O) (k : JP j r O xs) : JP (consJ f j) r O (x :: xs) := fun acc hl => by
  simp only [List.map_cons, List.sum_cons] at hl
  simp only [consJ, h, bind_ok']
  rw [if_pos (by omega), k (acc ++ x) (by simp; omega)]
  simp
theorem joinE_ok {j : DJ0} {r : Rho} {O : Sto} {xs : List (List Nat)} (h : JP j r O xs) (hl : (xs.map (·.length)).sum ≤ 16777216) : joinE j r O = .ok (.str xs.flatten) O := by
  have := h [] (by rw [sizeLine_nat]; simpa using hl)
  simpa [joinE] using this
theorem fmt_str {f : DE0} {r : Rho} {O : Sto} {x : List Nat} (h : f r O = .ok (.str x) O) (hl : x.length ≤ 16777216) : fmtE f r O = .ok (.str x) O := by
  simp only [fmtE, h, bind_ok', fmtD]
  rw [if_pos (by rw [sizeLine_nat]; exact hl)]
theorem fmt_int {f : DE0} {r : Rho} {O : Sto} {n : Nat} (h : f r O = .ok (.int n) O) (hl : n < 1000000000000) : fmtE f r O = .ok (.str (TL.numL n)) O := by
  simp only [fmtE, h, bind_ok', fmtD]
  rw [if_pos (log2_small (by omega) (by omega)), numT_nat]
end Dn
namespace Dn
open PySem
end Dn
namespace Dn
/-- texts -/
abbrev Tx := List Nat
end Dn
set_option linter.all false
set_option maxRecDepth 100000
set_option maxHeartbeats 4000000
namespace Dn
open PySem Lib
abbrev pts (l : List Nat) : List (List Nat) := TL.spl [46] 0 [] l
abbrev jn (ps : List (List Nat)) : List Nat := TL.joinL [46] ps
theorem spl_cons (acc : List Nat) (c : Nat) (r : List Nat) : TL.spl [46] 0 acc (c :: r) = if c = 46 then acc :: TL.spl [46] 0 [] r else TL.spl [46] 0 (acc ++ [c]) r := by
  by_cases h : c = 46
  · subst h
    rw [if_pos rfl, TL.spl_hit (by simp [TL.pre])]
    rfl
  · rw [if_neg h, TL.spl_miss (by simp [TL.pre, h])]
theorem spl_ne (l : List Nat) : ∀ acc, TL.spl [46] 0 acc l ≠ [] := by
  induction l with
  | nil => intro acc; rw [TL.spl_nil]; simp
  | cons c r ih => intro acc; rw [spl_cons]; split; · simp
                   exact ih _
theorem spl_dot (l : List Nat) : ∀ acc, 46 ∉ acc → ∀ p ∈ TL.spl [46] 0 acc l, 46 ∉ p := by
  induction l with
  | nil => intro acc h p hp; rw [TL.spl_nil] at hp; simp at hp; subst hp; exact h
  | cons c r ih =>
    intro acc h p hp
    rw [spl_cons] at hp
    split at hp
    · simp only [List.mem_cons] at hp
      rcases hp with rfl | hp
      · exact h
      · exact ih [] (by simp) p hp
    · rename_i hc
      exact ih (acc ++ [c]) (by simp [h]; exact fun e => hc e.symm) p hp
theorem jn_cons (p : List Nat) {ps : List (List Nat)} (h : ps ≠ []) : jn (p :: ps) = p ++ 46 :: jn ps := by
  cases ps with
  | nil => exact absurd rfl h
  | cons q ps => simp [TL.joinL]
theorem jn_spl (l : List Nat) : ∀ acc, jn (TL.spl [46] 0 acc l) = acc ++ l := by
  induction l with
  | nil => intro acc; rw [TL.spl_nil]; simp [TL.joinL]
  | cons c r ih =>
    intro acc
    rw [spl_cons]
    split
    · rename_i hc
      subst hc
      rw [jn_cons _ (spl_ne r []), ih []]; simp
    · rw [ih]; simp
theorem jn_len : ∀ ps : List (List Nat), (ps.map (·.length)).sum + ps.length ≤ (jn ps).length + 1
  | [] => by simp [TL.joinL]
  | [p] => by simp [TL.joinL]
  | p :: q :: ps => by
    have := jn_len (q :: ps)
    rw [jn_cons p (by simp)]
    simp only [List.map_cons, List.sum_cons, List.length_cons, List.length_append] at this ⊢
    omega
theorem pts_take {x : List Nat} {k : Nat} (hk : 0 < k) (hl : k ≤ (pts x).length) : pts (jn ((pts x).take k)) = (pts x).take k := by
  refine TL.spl_join ?_ fun p hp => spl_dot x [] (by simp) p (List.mem_of_mem_take hp)
  intro e
  have := congrArg List.length e
  rw [List.length_take, List.length_nil] at this
  omega
/-- the names above, the nearest first -/
def ups (ps : List (List Nat)) : Nat → List (List Nat)
  | 0 => []
  | k + 1 => jn (ps.take k) :: ups ps k
theorem ups_mem {ps : List (List Nat)} {o : List Nat} : ∀ {n : Nat}, o ∈ ups ps n ↔ ∃ k, k < n ∧ o = jn (ps.take k)
  | 0 => by simp [ups]
  | n + 1 => by
    simp only [ups, List.mem_cons, ups_mem (n := n)]
    constructor
    · rintro (h | ⟨k, h, e⟩)
      · exact ⟨n, by omega, h⟩
      · exact ⟨k, by omega, e⟩
    · rintro ⟨k, h, e⟩
      by_cases q : k = n
      · subst q; exact .inl e
      · exact .inr ⟨k, by omega, e⟩
def above (x : List Nat) : List (List Nat) := if x = [] then [] else ups (pts x) (pts x).length
def under (x o : List Nat) : Bool := (o == [] || o == x) || (decide ((o ++ [46]).length ≤ x.length) && (x.take (o ++ [46]).length == o ++ [46]))
theorem pts_len {x : List Nat} : ((pts x).map (·.length)).sum + (pts x).length ≤ x.length + 1 := by
  have := jn_len (pts x)
  rwa [show jn (pts x) = x from by simpa using jn_spl x []] at this
theorem sum_take : ∀ (ps : List (List Nat)) (k : Nat), ((ps.take k).map (·.length)).sum + (ps.take k).length ≤ (ps.map (·.length)).sum + ps.length
  | [], k => by simp
  | p :: ps, 0 => by simp
  | p :: ps, k + 1 => by
    have := sum_take ps k
    simp only [List.take_succ_cons, List.map_cons, List.sum_cons, List.length_cons] at this ⊢
    omega
theorem join_take (x : List Nat) (hx : x.length ≤ 1000000) (k : Nat) (O : Sto) : joinF (.str [46]) [.lst (((pts x).take k).map D.str)] O = .ok (.str (jn ((pts x).take k))) O := by
  refine join_lst _ _ _ ?_
  have h1 := sum_take (pts x) k
  have h2 := pts_len (x := x)
  simp only [List.length_cons, List.length_nil] at h1 ⊢
  omega
theorem noObL_tx (xs : List (List Nat)) : noObL (xs.map D.str) = true := by
  induction xs with
  | nil => rfl
  | cons a l ih => simp [noObL, noOb, ih]
theorem ups_items (ps : List (List Nat)) : ∀ n : Nat, (downD ((n : Int) - 1) (-1)).map (fun d => match d with | .int k => D.str (jn (ps.take k.toNat)) | _ => .non) = (ups ps n).map D.str
  | 0 => rfl
  | n + 1 => by
    rw [down_succ, List.map_cons, ups_items ps n]
    simp [ups]
theorem down_map (n : Nat) : downD ((n : Int) - 1) (-1) = (List.range n).map fun j : Nat => D.int ((n : Int) - 1 - (j : Int)) := by
  unfold downD
  rw [show ((n : Int) - 1 - (-1)).toNat = n from by omega]
theorem above_ok (x : List Nat) (hx : x.length ≤ 1000) (O : Sto) : closeFn fn_above [.str x] O = .ok (.tup ((above x).map D.str)) O := by
  refine close_ok (O' := []) (by simp [noObL, noOb]) ?_ (by simp [noOb, noObL_tx])
  by_cases h : x = []
  · subst h
    have hs : sizeLine = 16777216 := sizeLine_nat
    simp [fn_above, runFn_eq, B_above, above, hs]
  · have h1 := split_dot x [] (by omega)
    have hl := pts_len (x := x)
    have hf1 : fits (((pts x).length : Int) - 1) = true := by simp [fits]; omega
    have hf2 : fits (-1) = true := by decide
    have lc := lcL_map (t := nameG 2) (el := bmE tyStr joinF (constE (.str [46])) (consA (slE false (varE 1) noP (someP (varE 2))) nilA)) (st := []) (r := [some (.str x), some (.lst ((pts x).map D.str)), none]) (O := [])
      (fun j : Nat => D.int (((pts x).length : Int) - 1 - (j : Int))) (fun j : Nat => D.str (jn ((pts x).take (((pts x).length : Int) - 1 - (j : Int)).toNat))) rfl (List.range (pts x).length) []
      (fun j hj => by
        refine ⟨_, rfl, ?_⟩
        have hj' : j < (pts x).length := List.mem_range.mp hj
        obtain ⟨k, hk⟩ : ∃ k : Nat, ((pts x).length : Int) - 1 - (j : Int) = k := ⟨(((pts x).length : Int) - 1 - (j : Int)).toNat, by omega⟩
        have hk2 : k ≤ (pts x).length := by omega
        rw [hk]
        have hc : cutD ((pts x).map D.str) none (some (k : Int)) = ((pts x).map D.str).take k := cut_take _ (by simpa using hk2)
        have hj2 := join_take x (by omega) k []
        rw [List.map_take] at hj2
        simp [tyStr, hc, hj2])
      (by simp [sizeLine_nat]; omega)
    have e2 : (List.range (pts x).length).map (fun j : Nat => D.str (jn ((pts x).take (((pts x).length : Int) - 1 - (j : Int)).toNat))) = (ups (pts x) (pts x).length).map D.str := by
      rw [← ups_items, down_map, List.map_map]
      rfl
    rw [e2, ← down_map] at lc
    have hx0 : (x == ([] : List Nat)) = false := by simpa using h
    simp [fn_above, runFn_eq, B_above, above, h, hx0, tyStr, h1, range3F, hf1, hf2, wipeR, lc]
theorem eqv_str (a b : List Nat) : eqv (.str a) (.str b) = (a == b) := by simp [eqv]
theorem under_ok (x o : List Nat) (hx : x.length ≤ 1000) (ho : o.length ≤ 1000) (O : Sto) : closeFn fn_is_under [.str x, .str o] O = .ok (.bl (under x o)) O := by
  have hs : sizeLine = 16777216 := sizeLine_nat
  refine close_ok (O' := []) (by simp [noObL, noOb]) ?_ rfl
  have hz : o.length + 1 ≤ 16777216 := by omega
  have hin : inB false (.str o) (.tup [.str [], .str x]) [] = .ok (.bl (([] == o) || (x == o))) [] := by
    simp [inB, dicOf, seqR, flatD, eqv_str]
  have e1 : (([] : List Nat) == o) = (o == []) := by rw [Bool.eq_iff_iff, beq_iff_eq, beq_iff_eq]; exact eq_comm
  have e2 : (x == o) = (o == x) := by rw [Bool.eq_iff_iff, beq_iff_eq, beq_iff_eq]; exact eq_comm
  rw [e1, e2] at hin
  unfold under
  cases q : (o == [] || o == x) with
  | true =>
    rw [q] at hin
    simp [fn_is_under, runFn_eq, B_is_under, hs, hin]
  | false =>
    rw [q] at hin
    simp [fn_is_under, runFn_eq, B_is_under, hs, hin, tyStr, hz, startswithF]
abbrev SG : List Nat := [97, 98, 99, 100, 101, 102, 103, 104, 105, 106, 107, 108, 109, 110, 111, 112, 113, 114, 115, 116, 117, 118, 119, 120, 121, 122, 48, 49, 50, 51, 52, 53, 54, 55, 56, 57, 95]
def inSg (c : Nat) : Bool := hasSub [c] SG && decide ([c].length ≤ SG.length)
def good (p : List Nat) : Bool := (decide (1 ≤ p.length) && decide (p.length ≤ 8)) && p.all inSg
theorem all_ok (p : List Nat) (hp : p.length ≤ 1000) (x0 x1 x2 x3 x4 : Option D) (O : Sto) (h4 : x4 = some (.str p)) :
    callE allF (consA (lcE false (seqI (varE 4)) (nameG 3) yesT (op2 (inB false) (varE 3) (constE c_SIGNS_names)) [3]) nilA) [x0, x1, x2, x3, x4] O = .ok (.bl (p.all inSg)) O := by
  subst h4
  have lc := lcL_map (t := nameG 3) (el := op2 (inB false) (varE 3) (constE c_SIGNS_names)) (st := []) (r := [x0, x1, x2, none, some (.str p)]) (O := O) (fun c : Nat => D.str [c]) (fun c : Nat => D.bl (inSg c)) rfl p []
    (fun c hc => ⟨_, rfl, by simp only [ev_op2, ev_const, c_SIGNS_names]; simp [inSg]⟩) (by simp [sizeLine_nat]; omega)
  simp [wipeR, lc, all_map]
theorem fit_ok (p : List Nat) (hp : p.length ≤ 1000) (x0 x1 x2 x3 x4 : Option D) (O : Sto) (h4 : x4 = some (.str p)) :
    andE (chainE leD leD (constE (.int 1)) (callE lenF (consA (varE 4) nilA)) (constE c_PART_MOST)) (callE allF (consA (lcE false (seqI (varE 4)) (nameG 3) yesT (op2 (inB false) (varE 3) (constE c_SIGNS_names)) [3]) nilA)) [x0, x1, x2, x3, x4] O = .ok (.bl (good p)) O := by
  have hs : sizeLine = 16777216 := sizeLine_nat
  have ha := fun O' => all_ok p hp x0 x1 x2 x3 x4 O' h4
  subst h4
  have hz : p.length ≤ 16777216 := by omega
  rw [ev_andE]
  simp only [ha]
  by_cases q1 : 1 ≤ p.length
  · by_cases q2 : p.length ≤ 8
    · simp [c_PART_MOST, hs, hz, good, q1, q2, show (1 : Int) ≤ p.length by omega, show (p.length : Int) ≤ 8 by omega]
    · simp [c_PART_MOST, hs, hz, good, q1, q2, show (1 : Int) ≤ p.length by omega, show ¬ (p.length : Int) ≤ 8 by omega]
  · simp [c_PART_MOST, hs, hz, good, q1, show ¬ (1 : Int) ≤ p.length by omega]
theorem pts_mem_len {x p : List Nat} (hp : p ∈ pts x) : p.length ≤ x.length := by
  have h := pts_len (x := x)
  have h2 : p.length + 1 ≤ ((pts x).map (·.length)).sum + (pts x).length := by
    generalize pts x = ps at hp
    induction ps with
    | nil => simp at hp
    | cons q qs ih =>
      simp only [List.mem_cons] at hp
      simp only [List.map_cons, List.sum_cons, List.length_cons]
      rcases hp with rfl | hp
      · omega
      · have := ih hp; omega
  omega
theorem is_name_ok (x : List Nat) (hx : x.length ≤ 1000) (h0 : x ≠ []) (O : Sto) : closeFn fn_is_name [.str x] O = .ok (.bl (decide ((pts x).length ≤ 6) && (pts x).all good)) O := by
  have hs : sizeLine = 16777216 := sizeLine_nat
  refine close_ok (O' := []) (by simp [noObL, noOb]) ?_ rfl
  have sp := split_dot x [] (by omega)
  have hl := pts_len (x := x)
  have lc := lcL_map (t := nameG 4) (el := andE (chainE leD leD (constE (.int 1)) (callE lenF (consA (varE 4) nilA)) (constE c_PART_MOST)) (callE allF (consA (lcE false (seqI (varE 4)) (nameG 3) yesT (op2 (inB false) (varE 3) (constE c_SIGNS_names)) [3]) nilA))) (st := []) (r := [some (.str x), some (.lst ((pts x).map D.str)), none, none, none]) (O := []) D.str (fun p => D.bl (good p)) rfl (pts x) []
    (fun p hp => ⟨_, rfl, fit_ok p (by have := pts_mem_len hp; omega) _ _ _ _ _ [] rfl⟩) (by simp [sizeLine_nat]; omega)
  have hb : (x == ([] : List Nat)) = false := by simpa using h0
  by_cases q : (pts x).length ≤ 6
  · simp [fn_is_name, runFn_eq, B_is_name, isiD, tyD, isTy, hb, h0, tyStr, sp, wipeR, lc, all_map, c_DEEP_MOST_names, q, show ((pts x).length : Int) ≤ 6 by omega]
  · simp [fn_is_name, runFn_eq, B_is_name, isiD, tyD, isTy, hb, h0, tyStr, sp, wipeR, lc, all_map, c_DEEP_MOST_names, q, show ¬ ((pts x).length : Int) ≤ 6 by omega]
/-- the same by hand -/
theorem jn_le {b : Nat} : ∀ {ps : List (List Nat)}, (∀ p ∈ ps, p.length ≤ b) → (jn ps).length ≤ ps.length * (b + 1)
  | [], _ => by simp [TL.joinL]
  | [p], h => by have := h p (by simp); simp [TL.joinL]; omega
  | p :: q :: ps, h => by
    have h1 := h p (by simp)
    have h2 := jn_le (ps := q :: ps) fun z hz => h z (by simp at hz ⊢; exact .inr hz)
    rw [jn_cons p (by simp)]
    simp only [List.length_append, List.length_cons] at h2 ⊢
    rw [Nat.succ_mul]
    omega
theorem inSg_eq (c : Nat) : inSg c = SG.contains c := by
  unfold inSg
  rw [sub_one]; simp
theorem of_good {p : List Nat} (h : good p = true) : 1 ≤ p.length ∧ p.length ≤ 8 ∧ ∀ c ∈ p, c ∈ SG := by
  unfold good at h
  simp only [Bool.and_eq_true, decide_eq_true_eq, List.all_eq_true] at h
  exact ⟨h.1.1, h.1.2, fun c hc => by have := h.2 c hc; rw [inSg_eq] at this; simpa using this⟩
/-- a name -/
def Nm (x : List Nat) : Prop := x = [] ∨ (x ≠ [] ∧ (pts x).length ≤ 6 ∧ (pts x).all good = true)
theorem SG_lt : ∀ c ∈ SG, 48 ≤ c ∧ c ≤ 122 ∧ c ≠ 46 := by decide
theorem Nm_of {ps : List (List Nat)} (h0 : ps ≠ []) (hn : ps.length ≤ 6) (hp : ∀ p ∈ ps, good p = true) : Nm (jn ps) := by
  have hd : ∀ p ∈ ps, 46 ∉ p := fun p h z => (SG_lt 46 ((of_good (hp p h)).2.2 46 z)).2.2 rfl
  have e : pts (jn ps) = ps := TL.spl_join h0 hd
  refine .inr ⟨?_, by rw [e]; exact hn, by rw [e]; exact List.all_eq_true.mpr hp⟩
  intro z
  have : pts (jn ps) = [[]] := by rw [z]; rfl
  rw [e] at this
  have := (of_good (hp [] (by rw [this]; simp))).1
  simp at this
theorem Nm.len {x : List Nat} (h : Nm x) : x.length ≤ 60 := by
  rcases h with rfl | ⟨_, h1, h2⟩
  · simp
  · have h3 := jn_le (b := 8) (ps := pts x) fun p hp => (of_good (List.all_eq_true.mp h2 p hp)).2.1
    have h4 : jn (pts x) = x := by have := jn_spl x []; simpa using this
    rw [h4] at h3; omega
theorem mem_pts {x : List Nat} {c : Nat} (hc : c ∈ x) (h : c ≠ 46) : ∃ p ∈ pts x, c ∈ p := by
  have h4 : jn (pts x) = x := by have := jn_spl x []; simpa using this
  have gen : ∀ ps : List (List Nat), c ∈ jn ps → ∃ p ∈ ps, c ∈ p := by
    intro ps
    induction ps with
    | nil => intro h; simp [TL.joinL] at h
    | cons p ps ih =>
      intro hc
      cases ps with
      | nil => simp [TL.joinL] at hc; exact ⟨p, by simp, hc⟩
      | cons q qs =>
        rw [jn_cons p (by simp)] at hc
        rcases List.mem_append.mp hc with hc | hc
        · exact ⟨p, by simp, hc⟩
        · rcases List.mem_cons.mp hc with rfl | hc
          · exact absurd rfl h
          · obtain ⟨r, hr, hcr⟩ := ih hc
            exact ⟨r, by simp at hr ⊢; exact .inr hr, hcr⟩
  exact gen (pts x) (by rw [h4]; exact hc)
theorem Nm.chars {x : List Nat} (h : Nm x) : ∀ c ∈ x, c ∈ SG ∨ c = 46 := by
  rcases h with rfl | ⟨_, h1, h2⟩
  · simp
  · intro c hc
    by_cases q : c = 46
    · exact .inr q
    · obtain ⟨p, hp, hcp⟩ := mem_pts hc q
      exact .inl ((of_good (List.all_eq_true.mp h2 p hp)).2.2 c hcp)
theorem Nm.is {x : List Nat} (h : Nm x) (O : Sto) : closeFn fn_is_name [.str x] O = .ok (.bl true) O := by
  by_cases h0 : x = []
  · subst h0
    refine close_ok (O' := []) (by simp [noObL, noOb]) ?_ rfl
    simp [fn_is_name, runFn_eq, B_is_name, isiD, tyD, isTy]
  · rcases h with rfl | ⟨_, h1, h2⟩
    · exact absurd rfl h0
    · have hl := Nm.len (.inr ⟨h0, h1, h2⟩)
      rw [is_name_ok x (by omega) h0, h2, decide_eq_true h1]; rfl
/-- whether a text is one -/
def isNm (x : List Nat) : Bool := x == [] || (decide ((pts x).length ≤ 6) && (pts x).all good)
theorem isNm_iff {x : List Nat} : isNm x = true ↔ Nm x := by
  unfold isNm Nm
  by_cases h0 : x = []
  · simp [h0]
  · simp [h0]
end Dn
set_option linter.all false
set_option maxRecDepth 100000
set_option maxHeartbeats 4000000
namespace Dn
open PySem Lib
def lvl (M : List Nat → Option Nat) (x : List Nat) : Nat := ((x :: above x).findSome? M).getD 30
theorem lo_loop (h : Nat) (fs : List (Nat × D)) (l : Nat) (L : List (DKey × D)) (M : List Nat → Option Nat) (hM : ∀ k, getK L (.inr k) = (M k).map fun n : Nat => D.int n) (O : Sto) (h1 : O[h]? = some (.ins 5 fs)) (h2 : getFD 16 fs = some (.ob l)) (h3 : O[l]? = some (.dic L)) (x1 : Option D) : ∀ (xs : List (List Nat)) (x2 : Option D),
    ∃ y2, forL (nameG 2) Q_Hall_level_of_1 [] (xs.map D.str) [some (.ob h), x1, x2] O = match xs.findSome? M with | some n => .ret (.int n) O | none => .nx [some (.ob h), x1, y2] O
  | [], x2 => ⟨x2, by simp [forL]⟩
  | x :: xs, x2 => by
    obtain ⟨y2, ih⟩ := lo_loop h fs l L M hM O h1 h2 h3 x1 xs (some (.str x))
    refine ⟨y2, ?_⟩
    have hk := hM x
    have hatt : att 5 16 = true := by decide
    rw [List.map_cons]
    unfold forL
    simp only [still_nil, if_true, ev_nameG, List.set]
    cases q : M x with
    | some n =>
      rw [q] at hk
      have e : Q_Hall_level_of_1 [some (.ob h), x1, some (.str x)] O = .ret (.int n) O := by
        simp [Q_Hall_level_of_1, h1, h2, hatt, inB, dicOf, h3, keyD, hk, ix_obD h3]
      rw [e]
      simp [q]
    | none =>
      rw [q] at hk
      have e : Q_Hall_level_of_1 [some (.ob h), x1, some (.str x)] O = .nx [some (.ob h), x1, some (.str x)] O := by
        simp [Q_Hall_level_of_1, h1, h2, hatt, inB, dicOf, h3, keyD, hk]
      rw [e]
      simp [q]
      exact ih
theorem level_of_ok (h : Nat) (fs : List (Nat × D)) (l : Nat) (L : List (DKey × D)) (M : List Nat → Option Nat) (hM : ∀ k, getK L (.inr k) = (M k).map fun n : Nat => D.int n) (O : Sto) (h1 : O[h]? = some (.ins 5 fs)) (h2 : getFD 16 fs = some (.ob l)) (h3 : O[l]? = some (.dic L))
    (x : List Nat) (hx : x.length ≤ 1000) : fn_Hall_level_of [.ob h, .str x] O = .ok (.int (lvl M x)) O := by
  have hs : sizeLine = 16777216 := sizeLine_nat
  have ha := fun O => above_ok x hx O
  have hlen : (above x).length ≤ 16777215 := by
    unfold above
    split
    · simp
    · have h1 := pts_len (x := x)
      have : ∀ (ps : List (List Nat)) n, (ups ps n).length = n := fun ps n => by
        induction n with
        | zero => rfl
        | succ n ih => simp [ups, ih]
      rw [this]; omega
  obtain ⟨y2, lp⟩ := lo_loop h fs l L M hM O h1 h2 h3 (some (.str x)) (x :: above x) none
  have hlp : ∀ s, forL (nameG 2) Q_Hall_level_of_1 [] ((D.str x) :: (above x).map D.str) [some (.ob h), some (.str x), none] O = s → forL (nameG 2) Q_Hall_level_of_1 [] ((x :: above x).map D.str) [some (.ob h), some (.str x), none] O = s := fun s e => e
  rw [List.map_cons] at lp
  unfold lvl
  cases q : (x :: above x).findSome? M with
  | some n =>
    rw [q] at lp
    simp [fn_Hall_level_of, runFn_eq, B_Hall_level_of, hs, ha, show 1 + (above x).length ≤ 16777216 by omega, lp]
  | none =>
    rw [q] at lp
    simp [fn_Hall_level_of, runFn_eq, B_Hall_level_of, hs, ha, show 1 + (above x).length ≤ 16777216 by omega, lp, c_TOP_LEVEL]
theorem is_told_ok (h : Nat) (fs : List (Nat × D)) (l : Nat) (L : List (DKey × D)) (M : List Nat → Option Nat) (hM : ∀ k, getK L (.inr k) = (M k).map fun n : Nat => D.int n) (O : Sto) (h1 : O[h]? = some (.ins 5 fs)) (h2 : getFD 16 fs = some (.ob l)) (h3 : O[l]? = some (.dic L)) (s : Int) (h4 : getFD 19 fs = some (.int s))
    (x : List Nat) (hx : x.length ≤ 1000) (v : Int) : fn_Hall_is_told [.ob h, .str x, .int v] O = .ok (.bl (decide (s ≤ v) && decide ((lvl M x : Int) ≤ v))) O := by
  have e := level_of_ok h fs l L M hM O h1 h2 h3 x hx
  have hatt : att 5 19 = true := by decide
  by_cases q : s ≤ v
  · simp [fn_Hall_is_told, runFn_eq, B_Hall_is_told, h1, h4, hatt, q, e]
  · simp [fn_Hall_is_told, runFn_eq, B_Hall_is_told, h1, h4, hatt, q]
end Dn
set_option linter.all false
set_option maxRecDepth 100000
namespace Dn.LibC
open Dn PySem Lib
def Q__law_level_1 : DS0 :=
  (consS (ifS (cmpT eqD (varE 0) (op2 (mulD false) (constE (.int 10)) (varE 2)))
    (retS (op2 ixD (varE 1) (varE 2)))
    nilS)
    (ifS (cmpT gtD (varE 0) (op2 (mulD false) (constE (.int 10)) (varE 2)))
    (retS (op2 (addD false) (op2 (addD false) (op2 ixD (varE 1) (varE 2)) (constE (.str [43]))) (callE strF (consA (op2 subD (varE 0) (op2 (mulD false) (constE (.int 10)) (varE 2))) nilA))))
    nilS))
def B__law_level : DS0 :=
  (consS (setS 1 (lstE false (consA (constE (.str [97, 108, 108])) (consA (constE (.str [100, 101, 98, 117, 103])) (consA (constE (.str [105, 110, 102, 111])) (consA (constE (.str [119, 97, 114, 110])) (consA (constE (.str [101, 114, 114, 111, 114])) (consA (constE (.str [102, 97, 116, 97, 108])) nilA))))))))
    (consS (forS (callI range3F (consA (constE (.int 5)) (consA (op1 negD (constE (.int 1))) (consA (op1 negD (constE (.int 1))) nilA)))) (nameG 2)
    Q__law_level_1)
    (retS (constE (.str [])))))
def fn__law_level : Fn := runFn 3 B__law_level
end Dn.LibC
set_option linter.all false
set_option maxRecDepth 100000
set_option maxHeartbeats 4000000
namespace Dn
open PySem Lib LibC
def sg94 : List Nat := [32, 33, 34, 35, 36, 38, 39, 40, 41, 42, 43, 44, 45, 46, 47, 48, 49, 50, 51, 52, 53, 54, 55, 56, 57, 58, 59, 60, 61, 62, 63, 64, 65, 66, 67, 68, 69, 70, 71, 72, 73, 74, 75, 76, 77, 78, 79, 80, 81, 82, 83, 84, 85, 86, 87, 88, 89, 90, 91, 92, 93, 94, 95, 96, 97, 98, 99, 100, 101, 102, 103, 104, 105, 106, 107, 108, 109, 110, 111, 112, 113, 114, 115, 116, 117, 118, 119, 120, 121, 122, 123, 124, 125, 126]
theorem sg94_len : sg94.length = 94 := by decide
theorem sg94_lt : ∀ c ∈ sg94, 32 ≤ c ∧ c ≤ 126 ∧ c ≠ 37 := by decide
end Dn
set_option linter.all false
set_option maxRecDepth 100000
set_option maxHeartbeats 4000000
namespace Dn
open PySem Lib LibC
end Dn
set_option linter.all false
set_option maxRecDepth 100000
set_option maxHeartbeats 4000000
namespace Dn
open PySem Lib LibC
theorem above_short (x : List Nat) (hx : x.length ≤ 1000) : (above x).length ≤ 2000 := by
  unfold above
  split
  · simp
  · have h1 := pts_len (x := x)
    have : ∀ (ps : List (List Nat)) n, (ups ps n).length = n := fun ps n => by
      induction n with
      | zero => rfl
      | succ n ih => simp [ups, ih]
    rw [this]; omega
end Dn
set_option linter.all false
set_option maxRecDepth 100000
set_option maxHeartbeats 4000000
namespace Dn
open PySem Lib LibC
/-- the words, as the program tells them -/
def lw (l : Nat) : List Nat := match fn_level_word [.int l] [] with | .ok (.str x) _ => x | _ => []
def chk (l : Nat) : Bool := (match fn_level_word [.int l] [] with | .ok (.str x) [] => x == lw l | _ => false) && (match fn__law_level [.int l] [] with | .ok (.str y) [] => y == lw l | _ => false) && decide ((lw l).length ≤ 20)
theorem chk_all : ∀ l ∈ List.range 100, chk l = true := by decide +kernel
theorem lw_ok (l : Nat) (h : l < 100) (O : Sto) : closeFn fn_level_word [.int l] O = .ok (.str (lw l)) O ∧ closeFn fn__law_level [.int l] O = .ok (.str (lw l)) O ∧ (lw l).length ≤ 20 := by
  have := chk_all l (List.mem_range.mpr h)
  simp only [chk, Bool.and_eq_true, decide_eq_true_eq] at this
  obtain ⟨⟨a, b⟩, c⟩ := this
  refine ⟨?_, ?_, c⟩
  · split at a
    · rename_i x e
      rw [beq_iff_eq] at a
      exact close_ok rfl (by rw [e, a]) rfl
    · cases a
  · split at b
    · rename_i x e
      rw [beq_iff_eq] at b
      exact close_ok rfl (by rw [e, b]) rfl
    · cases b
/-- the first level with a word -/
def fst (t : List Nat) (i n : Nat) : Option Nat := (List.range' i n).find? fun j => lw j == t
end Dn
set_option linter.all false
set_option maxRecDepth 100000
set_option maxHeartbeats 4000000
namespace Dn
open PySem Lib
end Dn
set_option linter.all false
set_option maxRecDepth 100000
set_option maxHeartbeats 4000000
namespace Dn
open PySem Lib
end Dn
set_option linter.all false
set_option maxRecDepth 100000
set_option maxHeartbeats 4000000
namespace Dn
open PySem Lib LibC
abbrev recD (m l : Nat) (name words : Tx) : D := .tup [.int m, .int l, .str name, .str words]
end Dn
set_option linter.all false
set_option maxRecDepth 100000
set_option maxHeartbeats 4000000
namespace Dn
open PySem Lib LibC
structure Rc (m l : Nat) (name words : Tx) : Prop where
  m : m < 1000000000
  l : l < 100
  name : Nm name
  w : words.length ≤ 80
  c : ∀ ch ∈ words, ch ∈ sg94
end Dn
set_option linter.all false
set_option maxRecDepth 100000
set_option maxHeartbeats 4000000
namespace Dn
open PySem Lib LibC
inductive Gate where
  | yes | no | lvl (n : Int) | und (x : Tx) | has (x : Tx) | neg (g : Gate) | con (g h : Gate) | dis (g h : Gate)
def gateD : Gate → D
  | .yes => .tup [.str [121, 101, 115]]
  | .no => .tup [.str [110, 111]]
  | .lvl n => .tup [.str [108, 101, 118, 101, 108], .int n]
  | .und x => .tup [.str [117, 110, 100, 101, 114], .str x]
  | .has x => .tup [.str [104, 97, 115], .str x]
  | .neg g => .tup [.str [110, 111, 116], gateD g]
  | .con g h => .tup [.str [97, 110, 100], gateD g, gateD h]
  | .dis g h => .tup [.str [111, 114], gateD g, gateD h]
def gdep : Gate → Nat
  | .neg g => gdep g + 1
  | .con g h => max (gdep g) (gdep h) + 1
  | .dis g h => max (gdep g) (gdep h) + 1
  | _ => 0
/-- its texts are not long -/
def gok : Gate → Bool
  | .und x => decide (x.length ≤ 1000)
  | .has x => decide (x.length ≤ 1000)
  | .neg g => gok g
  | .con g h => gok g && gok h
  | .dis g h => gok g && gok h
  | _ => true
def hasB (x w : Tx) : Bool := hasSub x w && decide (x.length ≤ w.length)
def gev (l : Int) (name words : Tx) : Gate → Bool
  | .yes => true
  | .no => false
  | .lvl n => decide (n ≤ l)
  | .und x => under name x
  | .has x => hasB x words
  | .neg g => !gev l name words g
  | .con g h => gev l name words g && gev l name words h
  | .dis g h => gev l name words g || gev l name words h
def rD (m l : Int) (name words : Tx) : D := .tup [.int m, .int l, .str name, .str words]
theorem noOb_gate : ∀ g : Gate, noOb (gateD g) = true
  | .yes => rfl | .no => rfl | .lvl _ => rfl | .und _ => rfl | .has _ => rfl
  | .neg g => by simp [gateD, noOb, noObL, noOb_gate g]
  | .con g h => by simp [gateD, noOb, noObL, noOb_gate g, noOb_gate h]
  | .dis g h => by simp [gateD, noOb, noObL, noOb_gate g, noOb_gate h]
theorem in_strs (a : Tx) (xs : List Tx) (O : Sto) : inB false (.str a) (.tup (xs.map D.str)) O = .ok (.bl (xs.any fun y => y == a)) O := by
  have h : ∀ xs : List Tx, (xs.map D.str).all flatD = true := fun xs => by
    rw [List.all_eq_true]; intro d hd; obtain ⟨x, _, rfl⟩ := List.mem_map.mp hd; rfl
  simp only [inB, dicOf, seqR, h xs, flatD, Bool.and_true, if_true, List.any_map]
  congr 2
  simp [Function.comp_def, eqv_str]
theorem in_yesno (a : Tx) (O : Sto) : inB false (.str a) (.tup [.str [121, 101, 115], .str [110, 111]]) O = .ok (.bl ([121, 101, 115] == a || [110, 111] == a)) O := by
  have := in_strs a [[121, 101, 115], [110, 111]] O
  simpa using this
theorem passes_ok (m l : Int) (name words : Tx) (hn : name.length ≤ 1000) (hw : words.length ≤ 100000) : ∀ (n : Nat) (g : Gate), gdep g < n → gok g = true → ∀ O, closeFn (fn_passes n) [gateD g, rD m l name words] O = .ok (.bl (gev l name words g)) O
  | 0, g, h, _, O => absurd h (Nat.not_lt_zero _)
  | n + 1, g, h, hk, O => by
    have hs : sizeLine = 16777216 := sizeLine_nat
    refine close_ok (O' := []) (by simp [noObL, noOb_gate, rD, noOb]) ?_ rfl
    cases g with
    | yes => simp [fn_passes, runFn_eq, B_passes, gateD, in_yesno, hs, gev]
    | no => simp [fn_passes, runFn_eq, B_passes, gateD, in_yesno, hs, gev]
    | lvl k => simp [fn_passes, runFn_eq, B_passes, gateD, in_yesno, hs, gev, rD]
    | und x =>
      have hx : x.length ≤ 1000 := by simpa [gok] using hk
      have e := fun O => under_ok name x hn hx O
      simp [fn_passes, runFn_eq, B_passes, gateD, in_yesno, hs, gev, rD, e]
    | has x => simp [fn_passes, runFn_eq, B_passes, gateD, in_yesno, hs, gev, rD, hasB]
    | neg g =>
      have e := fun O => passes_ok m l name words hn hw n g (by simp only [gdep] at h; omega) (by simpa [gok] using hk) O
      unfold rD at e
      simp [fn_passes, runFn_eq, B_passes, gateD, in_yesno, hs, gev, rD, e]
    | con g k =>
      simp only [gok, Bool.and_eq_true] at hk
      have e1 := fun O => passes_ok m l name words hn hw n g (by simp only [gdep] at h; omega) hk.1 O
      have e2 := fun O => passes_ok m l name words hn hw n k (by simp only [gdep] at h; omega) hk.2 O
      unfold rD at e1 e2
      cases q : gev l name words g with
      | true => rw [q] at e1; simp [fn_passes, runFn_eq, B_passes, gateD, in_yesno, hs, gev, rD, e1, e2, q]
      | false => rw [q] at e1; simp [fn_passes, runFn_eq, B_passes, gateD, in_yesno, hs, gev, rD, e1, e2, q]
    | dis g k =>
      simp only [gok, Bool.and_eq_true] at hk
      have e1 := fun O => passes_ok m l name words hn hw n g (by simp only [gdep] at h; omega) hk.1 O
      have e2 := fun O => passes_ok m l name words hn hw n k (by simp only [gdep] at h; omega) hk.2 O
      unfold rD at e1 e2
      cases q : gev l name words g with
      | true => rw [q] at e1; simp [fn_passes, runFn_eq, B_passes, gateD, in_yesno, hs, gev, rD, e1, e2, q]
      | false => rw [q] at e1; simp [fn_passes, runFn_eq, B_passes, gateD, in_yesno, hs, gev, rD, e1, e2, q]
end Dn
set_option linter.all false
set_option maxRecDepth 100000
set_option maxHeartbeats 4000000
namespace Dn
open PySem Lib LibC
inductive Part where
  | txt (x : Tx) | fld (w k : Tx) (n : Nat)
def partD : Part → D
  | .txt x => .tup [.str [116, 101, 120, 116], .str x]
  | .fld w k n => .tup [.str [102, 105, 101, 108, 100], .str w, .str k, .int n]
def FW : List Tx := [[109, 111, 109, 101, 110, 116], [108, 101, 118, 101, 108], [110, 97, 109, 101], [119, 111, 114, 100, 115]]
def MK : List Tx := [[60], [62], [61]]
def fieldT (w k : Tx) (n : Nat) : Tx := w ++ (if k = [] then [] else k ++ TL.numL n)
def pok : Part → Prop
  | .txt x => x ≠ [] ∧ x.length ≤ 100
  | .fld w k n => w ∈ FW ∧ ((k = [] ∧ n = 0) ∨ (k ∈ MK ∧ 1 ≤ n ∧ n ≤ 40))
theorem numL_le {n : Nat} (h : n ≤ 40) : (TL.numL n).length ≤ 2 := by
  have := numL_len (n := n) (k := 2) (by omega) (by omega)
  omega
theorem fw_len {w : Tx} (h : w ∈ FW) : w.length ≤ 6 := by
  simp only [FW, List.mem_cons, List.not_mem_nil, or_false] at h
  rcases h with rfl | rfl | rfl | rfl <;> simp
theorem mk_len {k : Tx} (h : k ∈ MK) : k.length = 1 := by
  simp only [MK, List.mem_cons, List.not_mem_nil, or_false] at h
  rcases h with rfl | rfl | rfl <;> rfl
theorem noOb_part (p : Part) : noOb (partD p) = true := by cases p <;> rfl
theorem noOb_parts : ∀ ps : List Part, noObL (ps.map partD) = true
  | [] => rfl
  | p :: ps => by simp only [List.map_cons, noObL, noOb_part, Bool.true_and]; exact noOb_parts ps
theorem str_nat {n : Nat} (h : n ≤ 40) (O : Sto) : strF [.int n] O = .ok (.str (TL.numL n)) O := by
  have hl : (n : Int).natAbs.log2 < 1920 := log2_small (by omega) (by omega)
  simp only [strF]
  rw [if_pos hl, numT_nat]
theorem par_no {a : Tx} {c : Nat} (h : c ∉ a) : parD a [c] = [.str a, .str [], .str []] := by
  unfold parD; rw [TL.par_none1 h]
theorem par_yes {a b : Tx} {c : Nat} (h : c ∉ a) : parD (a ++ c :: b) [c] = [.str a, .str [c], .str b] := by
  unfold parD
  have := TL.par_part1 (s := c) (S := []) (p := a) (rest := b) (acc := []) h
  simp only [List.singleton_append, List.nil_append] at this
  rw [this]
theorem rf_skip {a : Tx} {c : Nat} (h : c ∉ a) (hl : a.length ≤ 1000) (x2 x3 x4 x5 x6 : Option D) :
    Q_read_field_1 [some (.str a), some (.str [c]), x2, x3, x4, x5, x6] [] = .nx [some (.str a), some (.str [c]), some (.str a), some (.str []), some (.str []), x5, x6] [] := by
  have hs : sizeLine = 16777216 := sizeLine_nat
  have hp : partition1F (.str a) [.str [c]] [] = .ok (.tup [.str a, .str [], .str []]) [] := by
    simp only [partition1F]
    rw [if_pos (by rw [hs]; simp; omega), par_no h]
  unfold Q_read_field_1
  refine cs_nx (r1 := [some (.str a), some (.str [c]), some (.str a), some (.str []), some (.str []), x5, x6]) (O1 := []) ?_ ?_
  · simp [tyStr, hp]
  · simp
theorem numL_inj {a b : Nat} (h : TL.numL a = TL.numL b) : a = b := by rw [← dv_num a, ← dv_num b, h]
theorem pick_wide {n : Nat} (h1 : 1 ≤ n) (h2 : n ≤ 40) : (List.range 40).filter (fun k => TL.numL (1 + k) == TL.numL n) = [n - 1] := by
  have e : (fun k => TL.numL (1 + k) == TL.numL n) = fun k => k == n - 1 := by
    funext k
    rw [Bool.eq_iff_iff, beq_iff_eq, beq_iff_eq]
    constructor
    · intro h; have := numL_inj h; omega
    · intro h; congr 1; omega
  rw [e]
  have : ∀ m < 40, (List.range 40).filter (fun k => k == m) = [m] := by decide
  exact this (n - 1) (by omega)
theorem rf_hit {w : Tx} {c n : Nat} (hw : w ∈ FW) (h : c ∉ w) (h1 : 1 ≤ n) (h2 : n ≤ 40) (x2 x3 x4 x5 x6 : Option D) :
    Q_read_field_1 [some (.str (w ++ c :: TL.numL n)), some (.str [c]), x2, x3, x4, x5, x6] [] = .ret (partD (.fld w [c] n)) [] := by
  have hs : sizeLine = 16777216 := sizeLine_nat
  have hwl := fw_len hw
  have hnl := numL_le h2
  have hp : partition1F (.str (w ++ c :: TL.numL n)) [.str [c]] [] = .ok (.tup [.str w, .str [c], .str (TL.numL n)]) [] := by
    simp only [partition1F]
    rw [if_pos (by rw [hs]; simp; omega), par_yes h]
  have hin : inB false (.str w) c_FIELDS [] = .ok (.bl true) [] := by
    have := in_strs w FW []
    rw [show (FW.any fun y => y == w) = true from List.any_eq_true.mpr ⟨w, hw, by simp⟩] at this
    exact this
  have lc := lcL_filter (t := nameG 6) (c := cmpT eqD (callE strF (consA (varE 6) nilA)) (varE 4)) (el := varE 6) (st := []) (r := [some (.str (w ++ c :: TL.numL n)), some (.str [c]), some (.str w), some (.str [c]), some (.str (TL.numL n)), x5, none]) (O := [])
    (fun k : Nat => D.int (1 + (k : Int))) (fun k => D.int (1 + (k : Int))) (fun k => TL.numL (1 + k) == TL.numL n) rfl (List.range 40) []
    (fun k hk => by
      have hk' := List.mem_range.mp hk
      have e := str_nat (n := 1 + k) (by omega) []
      have ec : ((1 + k : Nat) : Int) = 1 + (k : Int) := by omega
      rw [ec] at e
      exact ⟨_, rfl, by simp [e], by simp⟩) (by rw [hs]; simp)
  rw [pick_wide h1 h2] at lc
  have hit : rangeD 1 41 = (List.range 40).map (fun k : Nat => D.int (1 + (k : Int))) := rfl
  rw [← hit] at lc
  simp only [List.nil_append, List.map_cons, List.map_nil] at lc
  rw [show (1 + ((n - 1 : Nat) : Int)) = (n : Int) from by omega] at lc
  unfold Q_read_field_1
  refine cs_nx (r1 := [some (.str (w ++ c :: TL.numL n)), some (.str [c]), some (.str w), some (.str [c]), some (.str (TL.numL n)), x5, x6]) (O1 := []) ?_ ?_
  · simp [tyStr, hp]
  refine if_t (O1 := []) (by simp [hin]) ?_
  refine cs_nx (r1 := [some (.str (w ++ c :: TL.numL n)), some (.str [c]), some (.str w), some (.str [c]), some (.str (TL.numL n)), some (.lst [.int n]), x6]) (O1 := []) ?_ ?_
  · have f1 : fits 1 = true := by simp [fits]
    have f2 : fits 41 = true := by simp [fits]
    have hr : (callI range2F (consA (constE (.int 1)) (consA (op2 (addD false) (constE c_WIDE_MOST) (constE (.int 1))) nilA))) [some (.str (w ++ c :: TL.numL n)), some (.str [c]), some (.str w), some (.str [c]), some (.str (TL.numL n)), x5, x6] [] = .ok ⟨rangeD 1 41, []⟩ [] := by
      simp [c_WIDE_MOST, f1, f2]
    have hwp : wipeR [some (.str (w ++ c :: TL.numL n)), some (.str [c]), some (.str w), some (.str [c]), some (.str (TL.numL n)), x5, x6] [6] = [some (.str (w ++ c :: TL.numL n)), some (.str [c]), some (.str w), some (.str [c]), some (.str (TL.numL n)), x5, none] := by simp [wipeR]
    generalize rangeD 1 41 = RG at lc hr
    rw [ev_setS, ev_lcE, hr, bind_ok', hwp, lc, bind_ok', ev_mkF, bindS_ok']
    rfl
  · simp [hs, partD]
theorem fw_chars {w : Tx} (h : w ∈ FW) : ∀ c ∈ w, 97 ≤ c ∧ c ≤ 122 := by
  simp only [FW, List.mem_cons, List.not_mem_nil, or_false] at h
  rcases h with rfl | rfl | rfl | rfl <;> decide
theorem read_field_ok {w k : Tx} {n : Nat} (h : pok (.fld w k n)) (O : Sto) : closeFn fn_read_field [.str (fieldT w k n)] O = .ok (partD (.fld w k n)) O := by
  have hw := h.1
  have hwl := fw_len hw
  have hwc := fw_chars hw
  have n60 : 60 ∉ w := fun z => by have := hwc 60 z; omega
  have n62 : 62 ∉ w := fun z => by have := hwc 62 z; omega
  have n61 : 61 ∉ w := fun z => by have := hwc 61 z; omega
  refine close_ok (O' := []) rfl ?_ (noOb_part _)
  have items : (c_MARKS : D) = .str [60, 62, 61] := rfl
  rcases h.2 with ⟨rfl, rfl⟩ | ⟨h2, h3, h4⟩
  · have e1 : fieldT w [] 0 = w := by simp [fieldT]
    rw [e1]
    have hin : inB false (.str w) c_FIELDS [] = .ok (.bl true) [] := by
      have := in_strs w FW []
      rw [show (FW.any fun y => y == w) = true from List.any_eq_true.mpr ⟨w, hw, by simp⟩] at this
      exact this
    have lp : forL (nameG 1) Q_read_field_1 [] [.str [60], .str [62], .str [61]] [some (.str w), none, none, none, none, none, none] [] = .nx [some (.str w), some (.str [61]), some (.str w), some (.str []), some (.str []), none, none] [] := by
      simp only [forL, still_nil, if_true, ev_nameG, List.set, rf_skip n60 (by omega), rf_skip n62 (by omega), rf_skip n61 (by omega)]
    have hB : B_read_field [some (.str w), none, none, none, none, none, none] [] = .ret (partD (.fld w [] 0)) [] := by
      unfold B_read_field
      refine cs_nx (r1 := [some (.str w), some (.str [61]), some (.str w), some (.str []), some (.str []), none, none]) (O1 := []) ?_ ?_
      · simp [items, lp]
      · simp [hin, partD, sizeLine_nat]
    simp [fn_read_field, runFn_eq, hB]
  · have hk := mk_len h2
    have hnd := @digit_lt n
    have hnl := numL_le h4
    obtain ⟨c, rfl⟩ : ∃ c, k = [c] := List.length_eq_one_iff.mp hk
    have e1 : fieldT w [c] n = w ++ c :: TL.numL n := by simp [fieldT]
    rw [e1]
    have m60 : c ≠ 60 → 60 ∉ w ++ c :: TL.numL n := fun hc z => by
      rcases List.mem_append.mp z with z | z
      · exact n60 z
      · rcases List.mem_cons.mp z with z | z
        · exact hc z.symm
        · have := hnd 60 z; omega
    have m62 : c ≠ 62 → 62 ∉ w ++ c :: TL.numL n := fun hc z => by
      rcases List.mem_append.mp z with z | z
      · exact n62 z
      · rcases List.mem_cons.mp z with z | z
        · exact hc z.symm
        · have := hnd 62 z; omega
    have hl : (w ++ c :: TL.numL n).length ≤ 1000 := by simp; omega
    have lp : forL (nameG 1) Q_read_field_1 [] [.str [60], .str [62], .str [61]] [some (.str (w ++ c :: TL.numL n)), none, none, none, none, none, none] [] = .ret (partD (.fld w [c] n)) [] := by
      simp only [MK, List.mem_cons, List.not_mem_nil, or_false, List.cons.injEq, and_true] at h2
      rcases h2 with rfl | rfl | rfl
      · simp only [forL, still_nil, if_true, ev_nameG, List.set, rf_hit hw n60 h3 h4]
      · simp only [forL, still_nil, if_true, ev_nameG, List.set, rf_skip (m60 (by omega)) hl, rf_hit hw n62 h3 h4]
      · simp only [forL, still_nil, if_true, ev_nameG, List.set, rf_skip (m60 (by omega)) hl, rf_skip (m62 (by omega)) hl, rf_hit hw n61 h3 h4]
    have hB : B_read_field [some (.str (w ++ c :: TL.numL n)), none, none, none, none, none, none] [] = .ret (partD (.fld w [c] n)) [] := by
      unfold B_read_field
      refine cs_ret ?_
      simp [items, lp, sizeLine_nat, show w.length ≤ 16777215 by omega]
    simp [fn_read_field, runFn_eq, hB]
end Dn
set_option linter.all false
set_option maxRecDepth 100000
set_option maxHeartbeats 4000000
namespace Dn
open PySem Lib LibC
def isT : Part → Bool | .txt _ => true | _ => false
def lastT (ps : List Part) : Bool := match ps.getLast? with | some p => isT p | none => false
def withT (ps : List Part) (t : Tx) : List Part := match ps.getLast? with
  | some (.txt x) => ps.dropLast ++ [.txt (x ++ t)]
  | _ => ps ++ [.txt t]
theorem withT_txt (a : List Part) (x t : Tx) : withT (a ++ [.txt x]) t = a ++ [.txt (x ++ t)] := by simp [withT]
theorem withT_no {a : List Part} (h : lastT a = false) (t : Tx) : withT a t = a ++ [.txt t] := by
  unfold withT
  unfold lastT at h
  cases q : a.getLast? with
  | none => rfl
  | some p => rw [q] at h; cases p with
    | txt x => simp [isT] at h
    | fld w k n => rfl
theorem with_ok (ps : List Part) (t : Tx) (h1 : ps.length ≤ 1000) (h2 : ∀ x, Part.txt x ∈ ps → x.length + t.length ≤ 100000) (O : Sto) : closeFn fn_with_text [.tup (ps.map partD), .str t] O = .ok (.tup ((withT ps t).map partD)) O := by
  have hs : sizeLine = 16777216 := sizeLine_nat
  refine close_ok (O' := []) (by simp only [noObL, noOb, noOb_parts, Bool.and_true]) ?_ (by simp only [noOb, noOb_parts])
  rcases List.eq_nil_or_concat ps with rfl | ⟨a, p, rfl⟩
  · simp [fn_with_text, runFn_eq, B_with_text, withT, partD, hs]
  · have hg : getI ((a.concat p).map partD) (-1) = some (partD p) := by
      have := getI_last (xs := (a.concat p).map partD) (by simp)
      rw [this]; simp
    have hc : cutD ((a.concat p).map partD) none (some (-1)) = a.map partD := by
      rw [cut_last]; simp
    have he : ((a.concat p).map partD).isEmpty = false := by simp
    rw [List.concat_eq_append] at hg hc he h1 h2 ⊢
    simp only [List.length_append, List.length_singleton] at h1
    cases p with
    | txt x =>
      have hx := h2 x (by simp)
      rw [withT_txt]
      have hgp := hg
      simp only [partD] at hgp
      have hlen : (List.map partD a).length = a.length := by simp
      rw [show ((a ++ [Part.txt (x ++ t)]).map partD) = a.map partD ++ [partD (.txt (x ++ t))] from by simp]
      generalize (a ++ [Part.txt x]).map partD = L at hgp hc he
      generalize a.map partD = A at hc hlen ⊢
      simp [fn_with_text, runFn_eq, B_with_text, hgp, hc, he, hs, partD, show x.length + t.length ≤ 16777216 by omega, hlen, show a.length + 1 ≤ 16777216 by omega]
    | fld w k n =>
      rw [withT_no (by simp [lastT, isT])]
      have hgp := hg
      simp only [partD] at hgp
      have hlen : ((a ++ [Part.fld w k n]).map partD).length = a.length + 1 := by simp
      rw [show ((a ++ [Part.fld w k n] ++ [Part.txt t]).map partD) = (a ++ [Part.fld w k n]).map partD ++ [partD (.txt t)] from by simp]
      generalize (a ++ [Part.fld w k n]).map partD = L at hgp hc he hlen ⊢
      simp [fn_with_text, runFn_eq, B_with_text, hgp, he, hs, partD, hlen, show a.length + 1 + 1 ≤ 16777216 by omega]
theorem cut_mid (pre suf : Tx) (m : Nat) : cutD (pre ++ suf) (some (pre.length : Int)) (some ((pre.length : Int) + (m : Int))) = suf.take m := by
  simp only [cutD, HT.sIx]
  rw [if_neg (by omega), if_neg (by omega)]
  simp only [Int.toNat_natCast, List.length_append]
  rw [show ((pre.length : Int) + (m : Int)).toNat = pre.length + m from by omega, show min pre.length (pre.length + suf.length) = pre.length from by omega, List.drop_left]
  by_cases h : m ≤ suf.length
  · rw [Nat.min_eq_left (by omega), Nat.add_sub_cancel_left]
  · rw [Nat.min_eq_right (by omega), Nat.add_sub_cancel_left, List.take_length, List.take_of_length_le (by omega)]
theorem ix_at (pre r : Tx) (c : Nat) (O : Sto) (h : (pre ++ c :: r).length ≤ 100000) : ixD (.str (pre ++ c :: r)) (.int pre.length) O = .ok (.str [c]) O := by
  have hs : sizeLine = 16777216 := sizeLine_nat
  simp only [ixD]
  rw [if_pos (by omega)]
  have : L2.ixN (pre ++ c :: r).length (pre.length : Int) = some pre.length := by
    unfold L2.ixN
    rw [if_pos (by omega), if_pos (by simp; omega)]; simp
  rw [this]
  simp
theorem find_at (pre a r : Tx) (c : Nat) (h : c ∉ a) : find2L (pre ++ (a ++ c :: r)) c (pre.length : Int) = some (pre.length + a.length) := by
  unfold find2L
  rw [List.find?_range_eq_some]
  have hf : fromL (pre ++ (a ++ c :: r)).length (pre.length : Int) = pre.length := by
    unfold fromL; rw [if_neg (by omega)]; omega
  rw [hf]
  refine ⟨?_, List.mem_range.mpr (by simp), fun j hj => ?_⟩
  · simp [List.getD_eq_getElem?_getD]
  · by_cases q : pre.length ≤ j
    · have hj2 : j - pre.length < a.length := by omega
      have hm : a[j - pre.length] ∈ a := List.getElem_mem hj2
      have hne : a[j - pre.length] ≠ c := fun z => h (z ▸ hm)
      have : (pre ++ (a ++ c :: r)).getD j 0 = a[j - pre.length] := by
        rw [List.getD_eq_getElem?_getD, List.getElem?_append_right q, List.getElem?_append_left hj2, List.getElem?_eq_getElem hj2]; rfl
      rw [this]
      simp [hne]
    · simp [q]
abbrev envR (T : Tx) (ps : List Part) (at' : Nat) (x3 x4 : Option D) : Rho := [some (.str T), some (.tup (ps.map partD)), some (.int at'), x3, x4]
def rcond : Rho → Sto → Res Bool := cmpT ltD (varE 2) (callE lenF (consA (varE 0) nilA))
theorem in_two (a : Tx) (O : Sto) : inB false (.str a) (.tup [.str [123, 123], .str [125, 125]]) O = .ok (.bl ([123, 123] == a || [125, 125] == a)) O := by
  have := in_strs a [[123, 123], [125, 125]] O
  simpa using this
structure Sm (ps : List Part) : Prop where
  l : ps.length ≤ 900
  t : ∀ x, Part.txt x ∈ ps → x.length ≤ 5000
theorem rcond_t (pre r : Tx) (c : Nat) (ps : List Part) (x3 x4 : Option D) (h : (pre ++ c :: r).length ≤ 100000) : rcond (envR (pre ++ c :: r) ps pre.length x3 x4) [] = .ok true [] := by
  have hs : sizeLine = 16777216 := sizeLine_nat
  simp only [List.length_append, List.length_cons] at h
  simp [rcond, hs, show pre.length + (r.length + 1) ≤ 16777216 by omega]
  omega
theorem step_two (pre r : Tx) (c : Nat) (hc : c = 123 ∨ c = 125) (ps : List Part) (S : Sm ps) (x3 x4 : Option D) (h : (pre ++ c :: c :: r).length ≤ 5000) :
    Q_read_form_1 (envR (pre ++ c :: c :: r) ps pre.length x3 x4) [] = .nx (envR (pre ++ c :: c :: r) (withT ps [c]) (pre.length + 2) x3 x4) [] := by
  have hs : sizeLine = 16777216 := sizeLine_nat
  have e1 := cut_mid pre (c :: c :: r) 2
  have e2 := ix_at pre (c :: r) c [] (by omega)
  have e3 := with_ok ps [c] (by have := S.l; omega) (fun x hx => by have := S.t x hx; simp; omega) []
  have hl : (pre ++ c :: c :: r).length ≤ 16777216 := by omega
  simp only [List.take_succ_cons, List.take_zero] at e1
  have hin : ∀ O, inB false (.str [c, c]) (.tup [.str [123, 123], .str [125, 125]]) O = .ok (.bl true) O := fun O => by
    rw [in_two]; rcases hc with rfl | rfl <;> rfl
  generalize pre ++ c :: c :: r = T at e1 e2 hl
  have e1' : cutD T (some (pre.length : Int)) (some ((pre.length : Int) + 2)) = [c, c] := e1
  unfold Q_read_form_1
  refine if_t (O1 := []) ?_ ?_
  · simp [hs, hl, e1', hin]
  · simp [e2, e3]
theorem step_one (pre r : Tx) (c : Nat) (hc1 : c ≠ 123) (hc2 : c ≠ 125) (ps : List Part) (S : Sm ps) (x3 x4 : Option D) (h : (pre ++ c :: r).length ≤ 5000) :
    Q_read_form_1 (envR (pre ++ c :: r) ps pre.length x3 x4) [] = .nx (envR (pre ++ c :: r) (withT ps [c]) (pre.length + 1) x3 x4) [] := by
  have hs : sizeLine = 16777216 := sizeLine_nat
  have e1 := cut_mid pre (c :: r) 2
  have e2 := ix_at pre r c [] (by omega)
  have e3 := with_ok ps [c] (by have := S.l; omega) (fun x hx => by have := S.t x hx; simp; omega) []
  have hl : (pre ++ c :: r).length ≤ 16777216 := by omega
  simp only [List.take_succ_cons] at e1
  generalize r.take 1 = r1 at e1
  have hin : ∀ O, inB false (.str (c :: r1)) (.tup [.str [123, 123], .str [125, 125]]) O = .ok (.bl false) O := fun O => by
    rw [in_two]; congr 2; simp [Ne.symm hc1, Ne.symm hc2]
  generalize pre ++ c :: r = T at e1 e2 hl
  have e1' : cutD T (some (pre.length : Int)) (some ((pre.length : Int) + 2)) = c :: r1 := e1
  unfold Q_read_form_1
  refine if_f (O1 := []) ?_ (if_f (O1 := []) ?_ ?_)
  · simp [hs, hl, e1', hin]
  · simp [e2, hc1]
  · refine cs_nx (r1 := [some (.str T), some (.tup (ps.map partD)), some (.int pre.length), x3, x4]) (O1 := []) (by simp [e2, hc2]) ?_
    simp [e2, e3]
/-- no two texts side by side -/
def wf : Bool → List Part → Prop
  | _, [] => True
  | b, p :: ps => (b && isT p) = false ∧ wf (isT p) ps
theorem lastT_snoc (a : List Part) (p : Part) : lastT (a ++ [p]) = isT p := by simp [lastT]
end Dn
set_option linter.all false
set_option maxRecDepth 100000
set_option maxHeartbeats 4000000
namespace Dn
open PySem Lib LibC
def fT : Part → Tx
  | .txt _ => []
  | .fld w k n => fieldT w k n
def allFld : List Part := FW.flatMap fun w => .fld w [] 0 :: MK.flatMap fun k => (List.range 40).map fun i => .fld w k (i + 1)
theorem mem_allFld {p : Part} : p ∈ allFld ↔ pok p ∧ isT p = false := by
  unfold allFld
  simp only [List.mem_flatMap, List.mem_cons, List.mem_map, List.mem_range]
  constructor
  · rintro ⟨w, hw, rfl | ⟨k, hk, i, hi, rfl⟩⟩
    · exact ⟨⟨hw, .inl ⟨rfl, rfl⟩⟩, rfl⟩
    · exact ⟨⟨hw, .inr ⟨hk, by omega, by omega⟩⟩, rfl⟩
  · rintro ⟨h, ht⟩
    cases p with
    | txt x => simp [isT] at ht
    | fld w k n =>
      refine ⟨w, h.1, ?_⟩
      rcases h.2 with ⟨rfl, rfl⟩ | ⟨h1, h2, h3⟩
      · exact .inl rfl
      · exact .inr ⟨k, h1, n - 1, by omega, by rw [show n - 1 + 1 = n from by omega]⟩
def fieldP (t : Tx) : Option Part := allFld.find? fun p => fT p == t
theorem fieldP_some {t : Tx} {p : Part} (h : fieldP t = some p) : ∃ w k n, p = .fld w k n ∧ pok p ∧ fieldT w k n = t := by
  have h1 := List.mem_of_find?_eq_some h
  have h2 := List.find?_some h
  obtain ⟨h3, h4⟩ := mem_allFld.mp h1
  cases p with
  | txt x => simp [isT] at h4
  | fld w k n => exact ⟨w, k, n, rfl, h3, by simpa [fT] using h2⟩
theorem fieldP_none {t : Tx} (h : fieldP t = none) : ∀ w k n, pok (.fld w k n) → fieldT w k n ≠ t := by
  intro w k n hp e
  have := List.find?_eq_none.mp h (.fld w k n) (mem_allFld.mpr ⟨hp, rfl⟩)
  simp [fT, e] at this
def fdD : Option Part → D
  | none => .non
  | some p => partD p
theorem in_fields (w : Tx) (O : Sto) : inB false (.str w) c_FIELDS O = .ok (.bl (FW.any fun y => y == w)) O := in_strs w FW O
theorem rf_none {a : Tx} {c : Nat} (hc : [c] ∈ MK) (h : ∀ w n, w ∈ FW → 1 ≤ n → n ≤ 40 → w ++ c :: TL.numL n ≠ a) (hl : a.length ≤ 1000) (x2 x3 x4 x5 x6 : Option D) :
    ∃ y2 y3 y4 y5, Q_read_field_1 [some (.str a), some (.str [c]), x2, x3, x4, x5, x6] [] = .nx [some (.str a), some (.str [c]), y2, y3, y4, y5, x6] [] := by
  have hs : sizeLine = 16777216 := sizeLine_nat
  by_cases q : c ∈ a
  · obtain ⟨p, r, rfl, hp⟩ := List.eq_append_cons_of_mem q
    simp only [List.length_append, List.length_cons] at hl
    have hpt : partition1F (.str (p ++ c :: r)) [.str [c]] [] = .ok (.tup [.str p, .str [c], .str r]) [] := by
      simp only [partition1F]
      rw [if_pos (by rw [hs]; simp; omega), par_yes hp]
    have hin := in_fields p []
    by_cases hw : p ∈ FW
    · rw [show (FW.any fun y => y == p) = true from List.any_eq_true.mpr ⟨p, hw, by simp⟩] at hin
      have lc := lcL_filter (t := nameG 6) (c := cmpT eqD (callE strF (consA (varE 6) nilA)) (varE 4)) (el := varE 6) (st := []) (r := [some (.str (p ++ c :: r)), some (.str [c]), some (.str p), some (.str [c]), some (.str r), x5, none]) (O := [])
        (fun k : Nat => D.int (1 + (k : Int))) (fun k => D.int (1 + (k : Int))) (fun k => TL.numL (1 + k) == r) rfl (List.range 40) []
        (fun k hk => by
          have hk' := List.mem_range.mp hk
          have e := str_nat (n := 1 + k) (by omega) []
          have ec : ((1 + k : Nat) : Int) = 1 + (k : Int) := by omega
          rw [ec] at e
          exact ⟨_, rfl, by simp [e], by simp⟩) (by rw [hs]; simp)
      have hf : (List.range 40).filter (fun k => TL.numL (1 + k) == r) = [] := by
        rw [List.filter_eq_nil_iff]
        intro k hk
        have hk' := List.mem_range.mp hk
        simp only [beq_iff_eq]
        intro e
        exact h p (1 + k) hw (by omega) (by omega) (by rw [e])
      rw [hf] at lc
      have hit : rangeD 1 41 = (List.range 40).map (fun k : Nat => D.int (1 + (k : Int))) := rfl
      rw [← hit] at lc
      simp only [List.nil_append, List.map_nil] at lc
      refine ⟨some (.str p), some (.str [c]), some (.str r), some (.lst []), ?_⟩
      unfold Q_read_field_1
      refine cs_nx (r1 := [some (.str (p ++ c :: r)), some (.str [c]), some (.str p), some (.str [c]), some (.str r), x5, x6]) (O1 := []) ?_ ?_
      · simp [tyStr, hpt]
      refine if_t (O1 := []) (by simp [hin]) ?_
      refine cs_nx (r1 := [some (.str (p ++ c :: r)), some (.str [c]), some (.str p), some (.str [c]), some (.str r), some (.lst []), x6]) (O1 := []) ?_ ?_
      · have f1 : fits 1 = true := by simp [fits]
        have f2 : fits 41 = true := by simp [fits]
        have hr : (callI range2F (consA (constE (.int 1)) (consA (op2 (addD false) (constE c_WIDE_MOST) (constE (.int 1))) nilA))) [some (.str (p ++ c :: r)), some (.str [c]), some (.str p), some (.str [c]), some (.str r), x5, x6] [] = .ok ⟨rangeD 1 41, []⟩ [] := by
          simp [c_WIDE_MOST, f1, f2]
        have hwp : wipeR [some (.str (p ++ c :: r)), some (.str [c]), some (.str p), some (.str [c]), some (.str r), x5, x6] [6] = [some (.str (p ++ c :: r)), some (.str [c]), some (.str p), some (.str [c]), some (.str r), x5, none] := by simp [wipeR]
        generalize rangeD 1 41 = RG at lc hr
        rw [ev_setS, ev_lcE, hr, bind_ok', hwp, lc, bind_ok', ev_mkF, bindS_ok']
        rfl
      · simp
    · rw [show (FW.any fun y => y == p) = false from List.any_eq_false.mpr fun y hy e => hw (by rw [← eq_of_beq e]; exact hy)] at hin
      refine ⟨some (.str p), some (.str [c]), some (.str r), x5, ?_⟩
      unfold Q_read_field_1
      refine cs_nx (r1 := [some (.str (p ++ c :: r)), some (.str [c]), some (.str p), some (.str [c]), some (.str r), x5, x6]) (O1 := []) ?_ ?_
      · simp [tyStr, hpt]
      · simp [hin]
  · exact ⟨_, _, _, _, rf_skip q hl x2 x3 x4 x5 x6⟩
theorem read_field_no {a : Tx} (h : fieldP a = none) (hl : a.length ≤ 1000) (O : Sto) : closeFn fn_read_field [.str a] O = .ok .non O := by
  have hn := fieldP_none h
  have hm : ∀ c, [c] ∈ MK → ∀ w n, w ∈ FW → 1 ≤ n → n ≤ 40 → w ++ c :: TL.numL n ≠ a := fun c hc w n hw h1 h2 => by
    have := hn w [c] n ⟨hw, .inr ⟨hc, h1, h2⟩⟩
    simpa [fieldT] using this
  have hw : a ∉ FW := fun z => by
    have := hn a [] 0 ⟨z, .inl ⟨rfl, rfl⟩⟩
    simp [fieldT] at this
  obtain ⟨a2, a3, a4, a5, e1⟩ := rf_none (c := 60) (by decide) (hm 60 (by decide)) hl none none none none none
  obtain ⟨b2, b3, b4, b5, e2⟩ := rf_none (c := 62) (by decide) (hm 62 (by decide)) hl a2 a3 a4 a5 none
  obtain ⟨c2, c3, c4, c5, e3⟩ := rf_none (c := 61) (by decide) (hm 61 (by decide)) hl b2 b3 b4 b5 none
  refine close_ok (O' := []) rfl ?_ rfl
  have items : (c_MARKS : D) = .str [60, 62, 61] := rfl
  have hin := in_fields a []
  rw [show (FW.any fun y => y == a) = false from List.any_eq_false.mpr fun y hy e => hw (by rw [← eq_of_beq e]; exact hy)] at hin
  have lp : forL (nameG 1) Q_read_field_1 [] [.str [60], .str [62], .str [61]] [some (.str a), none, none, none, none, none, none] [] = .nx [some (.str a), some (.str [61]), c2, c3, c4, c5, none] [] := by
    simp only [forL, still_nil, if_true, ev_nameG, List.set, e1, e2, e3]
  have hB : B_read_field [some (.str a), none, none, none, none, none, none] [] = .ret .non [] := by
    unfold B_read_field
    refine cs_nx (r1 := [some (.str a), some (.str [61]), c2, c3, c4, c5, none]) (O1 := []) ?_ ?_
    · simp [items, lp]
    · simp [hin]
  simp [fn_read_field, runFn_eq, hB]
theorem read_field_all (a : Tx) (hl : a.length ≤ 1000) (O : Sto) : closeFn fn_read_field [.str a] O = .ok (fdD (fieldP a)) O := by
  cases q : fieldP a with
  | none => exact read_field_no q hl O
  | some p =>
    obtain ⟨w, k, n, rfl, hp, e⟩ := fieldP_some q
    rw [← e]; exact read_field_ok hp O
def splitB : Tx → Option (Tx × Tx)
  | [] => none
  | c :: r => if c = 125 then some ([], r) else (splitB r).map fun p => (c :: p.1, p.2)
theorem splitB_some : ∀ {r w t : Tx}, splitB r = some (w, t) → r = w ++ 125 :: t ∧ 125 ∉ w
  | [], w, t, h => by cases h
  | c :: r, w, t, h => by
    unfold splitB at h
    split at h
    · rename_i q
      cases h; subst q; exact ⟨rfl, by simp⟩
    · rename_i q
      simp only [Option.map_eq_some_iff] at h
      obtain ⟨⟨w', t'⟩, e, h⟩ := h
      cases h
      obtain ⟨h1, h2⟩ := splitB_some e
      exact ⟨by rw [h1]; rfl, by simp [h2]; exact fun z => q z.symm⟩
theorem splitB_none : ∀ {r : Tx}, splitB r = none → 125 ∉ r
  | [], h => by simp
  | c :: r, h => by
    unfold splitB at h
    split at h
    · cases h
    · rename_i q
      simp only [Option.map_eq_none_iff] at h
      have := splitB_none h
      simp [this]; exact fun z => q z.symm
def rdP : Nat → Tx → Nat → List Part → Except Nat (List Part)
  | 0, _, _, ps => .ok ps
  | _ + 1, [], _, ps => .ok ps
  | n + 1, c :: r, i, ps =>
    if c = 123 ∨ c = 125 then
      (if r.head? = some c then rdP n r.tail (i + 2) (withT ps [c])
       else if c = 125 then .error i
       else match splitB r with
        | none => .error i
        | some (w, t) => match fieldP w with
          | none => .error i
          | some p => rdP n t (i + w.length + 2) (ps ++ [p]))
    else rdP n r (i + 1) (withT ps [c])
theorem rdP_open (n : Nat) (r : Tx) (i : Nat) (ps : List Part) (hh : r.head? ≠ some 123) : rdP (n + 1) (123 :: r) i ps = match splitB r with
    | none => .error i
    | some (w, t) => match fieldP w with
      | none => .error i
      | some p => rdP n t (i + w.length + 2) (ps ++ [p]) := by
  simp only [rdP]
  rw [if_pos (by simp), if_neg hh, if_neg (by decide)]
abbrev atE (a : Nat) : Er := ⟨4, [(22, .int (a : Int))]⟩
theorem hd_ne {r : Tx} {c : Nat} (h : r.head? ≠ some c) : (c :: r).take 2 ≠ [c, c] := by
  cases r with
  | nil => simp
  | cons d r => simp at h ⊢; exact h
theorem not_two {r : Tx} {c : Nat} (h : r.head? ≠ some c) (O : Sto) : inB false (.str ((c :: r).take 2)) (.tup [.str [123, 123], .str [125, 125]]) O = .ok (.bl false) O := by
  rw [in_two]
  have h2 := hd_ne h
  generalize hx : (c :: r).take 2 = x at h2
  cases r with
  | nil => simp at hx; subst hx; simp
  | cons d r =>
    simp at hx h; subst hx
    congr 2
    simp only [Bool.or_eq_false_iff, beq_eq_false_iff_ne, ne_eq, List.cons.injEq, and_true]
    exact ⟨by rintro ⟨rfl, rfl⟩; exact h rfl, by rintro ⟨rfl, rfl⟩; exact h rfl⟩
theorem step_close (pre r : Tx) (h0 : r.head? ≠ some 125) (ps : List Part) (x3 x4 : Option D) (h : (pre ++ 125 :: r).length ≤ 5000) :
    Q_read_form_1 (envR (pre ++ 125 :: r) ps pre.length x3 x4) [] = .exc (atE pre.length) (envR (pre ++ 125 :: r) ps pre.length x3 x4) [] := by
  have hs : sizeLine = 16777216 := sizeLine_nat
  have e1 := cut_mid pre (125 :: r) 2
  have e2 := ix_at pre r 125 [] (by omega)
  have hin := not_two h0 []
  have hl : (pre ++ 125 :: r).length ≤ 16777216 := by omega
  generalize (125 :: r).take 2 = X at e1 hin
  generalize pre ++ 125 :: r = T at e1 e2 hl
  have e1' : cutD T (some (pre.length : Int)) (some ((pre.length : Int) + 2)) = X := e1
  unfold Q_read_form_1
  refine if_f (O1 := []) ?_ (if_f (O1 := []) ?_ ?_)
  · simp [hs, hl, e1', hin]
  · simp [e2]
  · refine cs_exc (r1 := envR T ps pre.length x3 x4) ?_
    refine if_t (O1 := []) (by simp [e2]) ?_
    simp [raiseS1]
theorem find_no {T : Tx} {i : Nat} (h : 125 ∉ T.drop i) (O : Sto) : find2F (.str T) [.str [125], .int i] O = .ok (.int (-1)) O := by
  have : find2L T 125 (i : Int) = none := by
    unfold find2L
    rw [List.find?_range_eq_none]
    intro j hj
    have hf : fromL T.length (i : Int) = i := by
      unfold fromL; rw [if_neg (by omega)]; omega
    rw [hf]
    simp only [Bool.not_eq_true', Bool.and_eq_false_iff, decide_eq_false_iff_not]
    by_cases q : i ≤ j
    · right
      rw [beq_eq_false_iff_ne]
      intro e
      refine h ?_
      rw [List.getD_eq_getElem?_getD, List.getElem?_eq_getElem hj] at e
      have e : T[j] = 125 := e
      have hm : (T.drop i)[j - i]'(by rw [List.length_drop]; omega) = 125 := by
        rw [List.getElem_drop]
        rw [← e]; congr 1; omega
      rw [← hm]; exact List.getElem_mem _
    · left; omega
  simp only [find2F, this, asI]
theorem step_open_no (pre r : Tx) (h0 : r.head? ≠ some 123) (hn : 125 ∉ r) (ps : List Part) (x3 x4 : Option D) (h : (pre ++ 123 :: r).length ≤ 5000) :
    ∃ r', Q_read_form_1 (envR (pre ++ 123 :: r) ps pre.length x3 x4) [] = .exc (atE pre.length) r' [] := by
  have hs : sizeLine = 16777216 := sizeLine_nat
  have e1 := cut_mid pre (123 :: r) 2
  have e2 := ix_at pre r 123 [] (by omega)
  have hin := not_two h0 []
  have hl : (pre ++ 123 :: r).length ≤ 16777216 := by omega
  have hfd := find_no (T := pre ++ 123 :: r) (i := pre.length) (by rw [List.drop_left]; simp [hn]) []
  generalize (123 :: r).take 2 = X at e1 hin
  generalize pre ++ 123 :: r = T at *
  have e1' : cutD T (some (pre.length : Int)) (some ((pre.length : Int) + 2)) = X := e1
  refine ⟨[some (.str T), some (.tup (ps.map partD)), some (.int pre.length), some (.int (-1)), some .non], ?_⟩
  unfold Q_read_form_1
  refine if_f (O1 := []) ?_ (if_t (O1 := []) ?_ ?_)
  · simp [hs, hl, e1', hin]
  · simp [e2]
  refine cs_nx (r1 := [some (.str T), some (.tup (ps.map partD)), some (.int pre.length), some (.int (-1)), x4]) (O1 := []) (by simp [tyStr, hfd]) ?_
  refine cs_nx (r1 := [some (.str T), some (.tup (ps.map partD)), some (.int pre.length), some (.int (-1)), some .non]) (O1 := []) (by simp) ?_
  refine cs_nx (r1 := [some (.str T), some (.tup (ps.map partD)), some (.int pre.length), some (.int (-1)), some .non]) (O1 := []) (by simp) ?_
  refine cs_exc (r1 := [some (.str T), some (.tup (ps.map partD)), some (.int pre.length), some (.int (-1)), some .non]) ?_
  refine if_t (O1 := []) (by simp) ?_
  simp [raiseS1]
theorem step_open (pre w r : Tx) (h0 : (w ++ 125 :: r).head? ≠ some 123) (hw : 125 ∉ w) (ps : List Part) (hps : ps.length ≤ 5000) (x3 x4 : Option D) (h : (pre ++ 123 :: (w ++ 125 :: r)).length ≤ 500) :
    match fieldP w with
    | none => ∃ r', Q_read_form_1 (envR (pre ++ 123 :: (w ++ 125 :: r)) ps pre.length x3 x4) [] = .exc (atE pre.length) r' []
    | some p => ∃ y3 y4, Q_read_form_1 (envR (pre ++ 123 :: (w ++ 125 :: r)) ps pre.length x3 x4) [] = .nx (envR (pre ++ 123 :: (w ++ 125 :: r)) (ps ++ [p]) (pre.length + w.length + 2) y3 y4) [] := by
  have hs : sizeLine = 16777216 := sizeLine_nat
  have hT2 : pre ++ 123 :: (w ++ 125 :: r) = (pre ++ [123]) ++ (w ++ 125 :: r) := by simp
  have hT3 : pre ++ 123 :: (w ++ 125 :: r) = pre ++ ((123 :: w) ++ 125 :: r) := by simp
  have er := read_field_all w (by simp at h; omega) []
  have e1 := cut_mid pre (123 :: (w ++ 125 :: r)) 2
  have hin := not_two h0 []
  have e2 := ix_at pre (w ++ 125 :: r) 123 [] (by omega)
  have e5 := find_at pre (123 :: w) r 125 (by simp; exact hw)
  rw [← hT3] at e5
  have e6 := cut_mid (pre ++ [123]) (w ++ 125 :: r) w.length
  rw [← hT2, List.take_left] at e6
  have hl : (pre ++ 123 :: (w ++ 125 :: r)).length ≤ 16777216 := by omega
  generalize (123 :: (w ++ 125 :: r)).take 2 = X at e1 hin
  generalize pre ++ 123 :: (w ++ 125 :: r) = T at *
  have e1' : cutD T (some (pre.length : Int)) (some ((pre.length : Int) + 2)) = X := e1
  simp only [List.length_append, List.length_cons, List.length_nil, Nat.zero_add] at e5 e6
  have e5' : find2F (.str T) [.str [125], .int pre.length] [] = .ok (.int ((pre.length + (w.length + 1) : Nat) : Int)) [] := by
    simp only [find2F, e5, asI]
  have e6' : cutD T (some ((pre.length : Int) + 1)) (some ((pre.length + (w.length + 1) : Nat) : Int)) = w := by
    have a1 : ((pre.length : Int) + 1) = ((pre.length + 1 : Nat) : Int) := by omega
    have a2 : ((pre.length + (w.length + 1) : Nat) : Int) = ((pre.length + 1 : Nat) : Int) + (w.length : Int) := by omega
    rw [a1, a2]; exact e6
  have hgt : (0 : Int) < ((pre.length + (w.length + 1) : Nat) : Int) := by omega
  have hend : ((pre.length + (w.length + 1) : Nat) : Int) + 1 = ((pre.length + w.length + 2 : Nat) : Int) := by omega
  generalize ((pre.length + (w.length + 1) : Nat) : Int) = en at e5' e6' hgt hend
  have first : ∀ (v : D) (x : SR), closeFn fn_read_field [.str w] [] = .ok v [] →
      (consS (ifS (cmpT isNoneD (varE 4) (constE .non)) (raiseS1 4 22 (consA (varE 2) nilA)) nilS)
        (consS (setS 1 (op2 (addD false) (varE 1) (tupE (consA (varE 4) nilA)))) (setS 2 (op2 (addD false) (varE 3) (constE (.int 1)))))) [some (.str T), some (.tup (ps.map partD)), some (.int pre.length), some (.int en), some v] [] = x →
      Q_read_form_1 (envR T ps pre.length x3 x4) [] = x := by
    intro v x hv hx
    unfold Q_read_form_1
    refine if_f (O1 := []) ?_ (if_t (O1 := []) ?_ ?_)
    · simp [hs, hl, e1', hin]
    · simp [e2]
    refine cs_nx (r1 := [some (.str T), some (.tup (ps.map partD)), some (.int pre.length), some (.int en), x4]) (O1 := []) (by simp [tyStr, e5']) ?_
    refine cs_nx (r1 := [some (.str T), some (.tup (ps.map partD)), some (.int pre.length), some (.int en), some .non]) (O1 := []) (by simp) ?_
    refine cs_nx (r1 := [some (.str T), some (.tup (ps.map partD)), some (.int pre.length), some (.int en), some v]) (O1 := []) ?_ hx
    simp [hgt, hs, hl, e6', hv]
  cases q : fieldP w with
  | none =>
    rw [q] at er
    refine ⟨[some (.str T), some (.tup (ps.map partD)), some (.int pre.length), some (.int en), some .non], first .non _ er ?_⟩
    refine cs_exc (r1 := [some (.str T), some (.tup (ps.map partD)), some (.int pre.length), some (.int en), some .non]) ?_
    refine if_t (O1 := []) (by simp) ?_
    simp [raiseS1]
  | some p =>
    rw [q] at er
    have hnn : isND (partD p) = false := by cases p <;> rfl
    refine ⟨some (.int en), some (partD p), first (partD p) _ er ?_⟩
    show _ = SR.nx [some (.str T), some (.tup ((ps ++ [p]).map partD)), some (.int ((pre.length + w.length + 2 : Nat) : Int)), some (.int en), some (partD p)] []
    have hpl : (ps.map partD).length + 1 ≤ 16777216 := by simp; omega
    rw [show (ps ++ [p]).map partD = ps.map partD ++ [partD p] from by simp]
    generalize ps.map partD = PD at hpl ⊢
    generalize partD p = PF at *
    refine cs_nx (r1 := [some (.str T), some (.tup PD), some (.int pre.length), some (.int en), some PF]) (O1 := []) (by simp [hnn]) ?_
    refine cs_nx (r1 := [some (.str T), some (.tup (PD ++ [PF])), some (.int pre.length), some (.int en), some PF]) (O1 := []) (by simp [hs, hpl]) ?_
    simp [hend]
structure Sz (k : Nat) (ps : List Part) : Prop where
  l : ps.length ≤ k
  t : ∀ x, Part.txt x ∈ ps → x.length ≤ k
theorem Sz.with {k : Nat} {ps : List Part} (S : Sz k ps) (c : Nat) {m : Nat} (hm : k + 1 ≤ m) : Sz m (withT ps [c]) := by
  rcases List.eq_nil_or_concat ps with rfl | ⟨a, p, rfl⟩
  · refine ⟨by simp [withT]; omega, fun x hx => ?_⟩
    simp [withT] at hx; subst hx; simp; omega
  · rw [List.concat_eq_append] at S ⊢
    have hl := S.l
    simp only [List.length_append, List.length_singleton] at hl
    cases p with
    | txt y =>
      have hy := S.t y (by simp)
      rw [withT_txt]
      refine ⟨by simp; omega, fun x hx => ?_⟩
      rcases List.mem_append.mp hx with h | h
      · have := S.t x (by simp [h]); omega
      · simp at h; subst h; simp; omega
    | fld w k' n =>
      have e : withT (a ++ [.fld w k' n]) [c] = a ++ [.fld w k' n] ++ [.txt [c]] := withT_no (by simp [lastT, isT]) _
      rw [e]
      refine ⟨by simp; omega, fun x hx => ?_⟩
      rcases List.mem_append.mp hx with h | h
      · have := S.t x h; omega
      · simp at h; subst h; simp; omega
theorem Sz.fld {k : Nat} {ps : List Part} (S : Sz k ps) {p : Part} (hp : isT p = false) {m : Nat} (hm : k + 1 ≤ m) : Sz m (ps ++ [p]) := by
  have hl := S.l
  refine ⟨by simp; omega, fun x hx => ?_⟩
  rcases List.mem_append.mp hx with h | h
  · have := S.t x h; omega
  · simp at h; subst h; simp [isT] at hp
theorem Sz.sm {k : Nat} {ps : List Part} (S : Sz k ps) (h : k ≤ 900) : Sm ps := ⟨by have := S.l; omega, fun x hx => by have := S.t x hx; omega⟩
theorem frd_loop : ∀ (n : Nat) (s pre : Tx) (ps : List Part) (m : Nat) (x3 x4 : Option D), s.length ≤ n → s.length < m → (pre ++ s).length ≤ 400 → Sz pre.length ps →
    match rdP n s pre.length ps with
    | .ok ps' => Sz (pre ++ s).length ps' ∧ ∃ y3 y4, whileL rcond Q_read_form_1 m (envR (pre ++ s) ps pre.length x3 x4) [] = .nx (envR (pre ++ s) ps' (pre ++ s).length y3 y4) []
    | .error a => ∃ r', whileL rcond Q_read_form_1 m (envR (pre ++ s) ps pre.length x3 x4) [] = .exc (atE a) r' [] := by
  have hs : sizeLine = 16777216 := sizeLine_nat
  have done : ∀ (pre : Tx) (ps : List Part) (m : Nat) (x3 x4 : Option D), 0 < m → pre.length ≤ 400 → whileL rcond Q_read_form_1 m (envR (pre ++ []) ps pre.length x3 x4) [] = .nx (envR (pre ++ []) ps (pre ++ []).length x3 x4) [] := by
    intro pre ps m x3 x4 hm hl
    obtain ⟨k, rfl⟩ : ∃ k, m = k + 1 := ⟨m - 1, by omega⟩
    rw [List.append_nil]
    exact while_f (by simp [rcond, hs, show pre.length ≤ 16777216 by omega])
  intro n
  induction n with
  | zero =>
    intro s pre ps m x3 x4 h1 h2 h3 S
    have : s = [] := List.length_eq_zero_iff.mp (by omega)
    subst this
    simp only [rdP]
    exact ⟨by simpa using S, x3, x4, done pre ps m x3 x4 (by omega) (by simpa using h3)⟩
  | succ n ih =>
    intro s pre ps m x3 x4 h1 h2 h3 S
    cases s with
    | nil =>
      simp only [rdP]
      exact ⟨by simpa using S, x3, x4, done pre ps m x3 x4 (by simpa using h2) (by simpa using h3)⟩
    | cons c r =>
      have h3' := h3
      simp only [List.length_append, List.length_cons] at h1 h2 h3'
      obtain ⟨k, rfl⟩ : ∃ k, m = k + 1 := ⟨m - 1, by omega⟩
      have hSm := S.sm (by omega)
      have rc := rcond_t pre r c ps x3 x4 (by omega)
      -- one sign
      have one : ∀ (s' : Tx) (d : Tx) (ps' : List Part) (y3 y4 : Option D), pre ++ c :: r = (pre ++ d) ++ s' → s'.length ≤ n → s'.length < k → Sz (pre.length + d.length) ps' →
          Q_read_form_1 (envR (pre ++ c :: r) ps pre.length x3 x4) [] = .nx (envR (pre ++ c :: r) ps' (pre.length + d.length) y3 y4) [] →
          (match rdP n s' (pre.length + d.length) ps' with
            | .ok ps' => Sz (pre ++ c :: r).length ps' ∧ ∃ y3 y4, whileL rcond Q_read_form_1 (k + 1) (envR (pre ++ c :: r) ps pre.length x3 x4) [] = .nx (envR (pre ++ c :: r) ps' (pre ++ c :: r).length y3 y4) []
            | .error a => ∃ r', whileL rcond Q_read_form_1 (k + 1) (envR (pre ++ c :: r) ps pre.length x3 x4) [] = .exc (atE a) r' []) := by
        intro s' d ps' y3 y4 he hn hk S' hq
        have := ih s' (pre ++ d) ps' k y3 y4 hn hk (by rw [← he]; exact h3) (by rw [List.length_append]; exact S')
        rw [List.length_append] at this
        rw [he] at rc hq ⊢
        cases q : rdP n s' (pre.length + d.length) ps' with
        | ok ps2 =>
          rw [q] at this
          obtain ⟨a1, z3, z4, a2⟩ := this
          exact ⟨a1, z3, z4, while_t rc hq a2⟩
        | error a =>
          rw [q] at this
          obtain ⟨r', a2⟩ := this
          exact ⟨r', while_t rc hq a2⟩
      by_cases hb : c = 123 ∨ c = 125
      · by_cases hh : r.head? = some c
        · obtain ⟨r2, rfl⟩ : ∃ r2, r = c :: r2 := by
            cases r with
            | nil => simp at hh
            | cons d r2 => simp at hh; exact ⟨r2, by rw [hh]⟩
          have st := step_two pre r2 c hb ps hSm x3 x4 (by omega)
          have e : rdP (n + 1) (c :: c :: r2) pre.length ps = rdP n r2 (pre.length + 2) (withT ps [c]) := by simp [rdP, hb]
          rw [e]
          simp only [List.length_cons] at h1 h2
          exact one r2 [c, c] (withT ps [c]) x3 x4 (by simp) (by omega) (by omega) (S.with c (by simp)) st
        · rcases hb with rfl | rfl
          · cases q : splitB r with
            | none =>
              have e : rdP (n + 1) (123 :: r) pre.length ps = .error pre.length := by simp [rdP, hh, q]
              rw [e]
              obtain ⟨r', st⟩ := step_open_no pre r hh (splitB_none q) ps x3 x4 (by omega)
              exact ⟨r', while_exc rc st⟩
            | some wt =>
              obtain ⟨w, t⟩ := wt
              obtain ⟨rfl, hw⟩ := splitB_some q
              have st := step_open pre w t hh hw ps (by have := S.l; omega) x3 x4 (by omega)
              cases qf : fieldP w with
              | none =>
                rw [qf] at st
                have e : rdP (n + 1) (123 :: (w ++ 125 :: t)) pre.length ps = .error pre.length := by rw [rdP_open _ _ _ _ hh, q]; simp only [qf]
                rw [e]
                obtain ⟨r', st⟩ := st
                exact ⟨r', while_exc rc st⟩
              | some p =>
                rw [qf] at st
                obtain ⟨y3, y4, st⟩ := st
                have e : rdP (n + 1) (123 :: (w ++ 125 :: t)) pre.length ps = rdP n t (pre.length + (123 :: (w ++ [125])).length) (ps ++ [p]) := by
                  rw [rdP_open _ _ _ _ hh, q]; simp only [qf]
                  congr 1
                  simp; omega
                rw [e]
                have hl : (123 :: (w ++ [125])).length = w.length + 2 := by simp
                obtain ⟨_, _, _, rfl, _, _⟩ := fieldP_some qf
                simp only [List.length_append, List.length_cons] at h1 h2
                exact one t (123 :: (w ++ [125])) _ y3 y4 (by simp) (by omega) (by omega) (S.fld rfl (by omega)) (by rw [hl, ← Nat.add_assoc]; exact st)
          · have e : rdP (n + 1) (125 :: r) pre.length ps = .error pre.length := by simp [rdP, hh]
            rw [e]
            exact ⟨_, while_exc rc (step_close pre r hh ps x3 x4 (by omega))⟩
      · have hb' := not_or.mp hb
        have st := step_one pre r c hb'.1 hb'.2 ps hSm x3 x4 (by omega)
        have e : rdP (n + 1) (c :: r) pre.length ps = rdP n r (pre.length + 1) (withT ps [c]) := by simp [rdP, hb'.1, hb'.2]
        rw [e]
        exact one r [c] (withT ps [c]) x3 x4 (by simp) (by omega) (by omega) (S.with c (by simp)) st
theorem read_form_any (T : Tx) (hT : T.length ≤ 400) (O : Sto) :
    match rdP T.length T 0 [] with
    | .ok ps => Sz T.length ps ∧ closeFn fn_read_form [.str T] O = .ok (.tup (ps.map partD)) O
    | .error a => closeFn fn_read_form [.str T] O = .exc (atE a) O := by
  have lp := frd_loop T.length T [] [] 100000 none none (Nat.le_refl _) (by omega) (by simpa using hT) ⟨by simp, by simp⟩
  simp only [List.nil_append, List.length_nil] at lp
  have st : ∀ x : SR, consS (whileS 100000 (cmpT ltD (varE 2) (callE lenF (consA (varE 0) nilA))) Q_read_form_1) (retS (varE 1)) (envR T [] 0 none none) [] = x → B_read_form [some (.str T), none, none, none, none] [] = x := by
    intro x h
    unfold B_read_form
    refine cs_nx (r1 := [some (.str T), some (.tup []), none, none, none]) (O1 := []) (by simp) ?_
    exact cs_nx (r1 := envR T [] 0 none none) (O1 := []) (by simp) h
  cases q : rdP T.length T 0 [] with
  | ok ps =>
    rw [q] at lp
    obtain ⟨S, y3, y4, e⟩ := lp
    refine ⟨S, close_ok (O' := []) rfl ?_ (by simp only [noOb, noOb_parts])⟩
    have hB := st (.ret (.tup (ps.map partD)) []) (cs_nx (r1 := envR T ps T.length y3 y4) (O1 := []) (by rw [ev_whileS]; exact e) (by simp))
    simp [fn_read_form, runFn_eq, hB]
  | error a =>
    rw [q] at lp
    obtain ⟨r', e⟩ := lp
    refine close_exc (O' := []) rfl ?_ rfl
    have hB := st (.exc (atE a) r' []) (cs_exc (by rw [ev_whileS]; exact e))
    simp [fn_read_form, runFn_eq, hB]
end Dn
set_option linter.all false
set_option maxRecDepth 100000
set_option maxHeartbeats 4000000
namespace Dn
open PySem
end Dn
set_option linter.all false
set_option maxRecDepth 100000
set_option maxHeartbeats 4000000
namespace Dn
open PySem
end Dn
set_option linter.all false
set_option maxRecDepth 100000
set_option maxHeartbeats 4000000
namespace Dn
open PySem
theorem run_ret2 {n : Nat} {B : DS0} {ds : List D} {O O' : Sto} {d : D} (h : B (ds.map some ++ List.replicate (n - ds.length) none) O = .ret d O') : runFn n B ds O = .ok d O' := by
  rw [runFn_eq, h]
theorem tryAs_ok {i n slot : Nat} {f : DS0} {h : D → DS0} {r : Rho} {O : Sto} {x : SR} (hf : f r O = x) (hx : ∀ e r1 O1, x ≠ .exc e r1 O1) : tryAsS i n slot f h r O = x := by
  unfold tryAsS
  rw [hf]
  cases x with
  | exc e r1 O1 => exact absurd rfl (hx e r1 O1)
  | _ => rfl
end Dn
set_option linter.all false
set_option maxRecDepth 100000
set_option maxHeartbeats 4000000
namespace Dn
open PySem Lib LibC
def wtx (m l : Nat) (name words w : Tx) : Tx :=
  if w = [109, 111, 109, 101, 110, 116] then TL.numL m else if w = [108, 101, 118, 101, 108] then lw l else if w = [110, 97, 109, 101] then (if name = [] then [42] else name) else words
def padT (k : Tx) (n : Nat) (x : Tx) : Tx :=
  if k = [60] then x ++ List.replicate (n - x.length) 32 else if k = [62] then List.replicate (n - x.length) 32 ++ x
  else if k = [61] then x.take n ++ List.replicate (n - (x.take n).length) 32 else x
def lpt (m l : Nat) (name words : Tx) : Part → Tx
  | .txt x => x
  | .fld w k n => padT k n (wtx m l name words w)
structure Rs (m l : Nat) (name words : Tx) : Prop where
  m : m < 1000000000000
  l : l < 100
  n : name.length ≤ 1000
  w : words.length ≤ 1000
theorem wtx_len {m l : Nat} {name words : Tx} (R : Rs m l name words) (w : Tx) : (wtx m l name words w).length ≤ 1000 := by
  unfold wtx
  have h1 := R.n
  have h2 := R.w
  have h3 := (lw_ok l R.l []).2.2
  have h4 := numL_len (n := m) (k := 12) R.m (by omega)
  split
  · omega
  split
  · omega
  split
  · split
    · simp
    · omega
  · omega
theorem str_m {m : Nat} (h : m < 1000000000000) (O : Sto) : strF [.int m] O = .ok (.str (TL.numL m)) O := by
  have hl : (m : Int).natAbs.log2 < 1920 := log2_small (by omega) (by omega)
  simp only [strF]
  rw [if_pos hl, numT_nat]
theorem field_text_ok {m l : Nat} {name words : Tx} (R : Rs m l name words) {w : Tx} (hw : w ∈ FW) (O : Sto) : closeFn fn_field_text [.str w, recD m l name words] O = .ok (.str (wtx m l name words w)) O := by
  have hs : sizeLine = 16777216 := sizeLine_nat
  have e1 := str_m R.m []
  have e2 := (lw_ok l R.l []).1
  have hn := R.n
  refine close_ok (O' := []) rfl ?_ rfl
  simp only [FW, List.mem_cons, List.not_mem_nil, or_false] at hw
  rcases hw with rfl | rfl | rfl | rfl
  · simp [fn_field_text, runFn_eq, B_field_text, wtx, e1]
  · simp [fn_field_text, runFn_eq, B_field_text, wtx, e2]
  · by_cases q : name = []
    · subst q; simp [fn_field_text, runFn_eq, B_field_text, wtx]
    · have hne : name.isEmpty = false := by cases name with | nil => exact absurd rfl q | cons => rfl
      simp [fn_field_text, runFn_eq, B_field_text, wtx, hs, show name.length ≤ 16777216 by omega, q, hne]
  · simp [fn_field_text, runFn_eq, B_field_text, wtx]
theorem pad_ok : ∀ n < 41, PadOk ((n : Nat) : Int) = true := by decide
theorem laid_part_ok {m l : Nat} {name words : Tx} (R : Rs m l name words) {p : Part} (hp : pok p) (O : Sto) : closeFn fn_laid_part [partD p, recD m l name words] O = .ok (.str (lpt m l name words p)) O := by
  have hs : sizeLine = 16777216 := sizeLine_nat
  refine close_ok (O' := []) (by simp only [noObL, noOb_part, Bool.true_and]; rfl) ?_ rfl
  cases p with
  | txt x => simp [fn_laid_part, runFn_eq, B_laid_part, partD, lpt]
  | fld w k n =>
    have e := field_text_ok R hp.1 []
    have hl := wtx_len R w
    have hl2 : (wtx m l name words w).length ≤ 16777216 := by omega
    simp only [lpt]
    generalize wtx m l name words w = t at e hl hl2
    have hcut : cutD t none (some (n : Int)) = t.take n := cut_takeN t n
    rcases hp.2 with ⟨rfl, rfl⟩ | ⟨h2, h3, h4⟩
    · simp [fn_laid_part, runFn_eq, B_laid_part, partD, e, padT]
    · simp only [MK, List.mem_cons, List.not_mem_nil, or_false] at h2
      have hpo : PadOk (n : Int) = true := pad_ok n (by omega)
      rcases h2 with rfl | rfl | rfl
      · simp [fn_laid_part, runFn_eq, B_laid_part, partD, e, padT, tyStr, ljust1F, hpo]
      · simp [fn_laid_part, runFn_eq, B_laid_part, partD, e, padT, tyStr, rjust1F, hpo]
      · simp [fn_laid_part, runFn_eq, B_laid_part, partD, e, padT, tyStr, ljust1F, hs, hl2, hcut, hpo]
theorem join_nil : ∀ ps : List Tx, TL.joinL [] ps = ps.flatten
  | [] => rfl
  | [p] => by simp [TL.joinL]
  | p :: q :: ps => by
    have := join_nil (q :: ps)
    simp only [TL.joinL] at this ⊢
    rw [this]; simp
theorem pad_len {k : Tx} {n : Nat} {x : Tx} (hn : n ≤ 40) (hx : x.length ≤ 1000) : (padT k n x).length ≤ 1040 := by
  unfold padT
  split
  · simp; omega
  split
  · simp; omega
  split
  · simp only [List.length_append, List.length_replicate, List.length_take]; omega
  · omega
theorem lpt_len {m l : Nat} {name words : Tx} (R : Rs m l name words) {p : Part} (hp : pok p) : (lpt m l name words p).length ≤ 1040 := by
  cases p with
  | txt x => have := hp.2; simp only [lpt]; omega
  | fld w k n =>
    have hn : n ≤ 40 := by rcases hp.2 with ⟨_, rfl⟩ | ⟨_, _, h⟩ <;> omega
    exact pad_len hn (wtx_len R w)
def lay (m l : Nat) (name words : Tx) (ps : List Part) : Tx := (ps.map (lpt m l name words)).flatten
end Dn
set_option linter.all false
set_option maxRecDepth 100000
set_option maxHeartbeats 4000000
namespace Dn
open PySem Lib LibC
/-- how many gates it is made of -/
def gsz : Gate → Nat
  | .neg g => gsz g + 1
  | .con g h => gsz g + gsz h + 1
  | .dis g h => gsz g + gsz h + 1
  | _ => 1
/-- it can be written and read -/
def gfin : Gate → Bool
  | .lvl n => decide (0 ≤ n) && decide (n < 100)
  | .und x => isNm x
  | .has x => decide (x.length ≤ 9) && x.all fun c => decide (32 ≤ c) && (decide (c ≤ 126) && decide (c ≠ 39))
  | .neg g => gfin g
  | .con g h => gfin g && gfin h
  | .dis g h => gfin g && gfin h
  | _ => true
theorem gsz_pos : ∀ g : Gate, 1 ≤ gsz g
  | .yes => by simp [gsz] | .no => by simp [gsz] | .lvl _ => by simp [gsz] | .und _ => by simp [gsz] | .has _ => by simp [gsz]
  | .neg g => by simp [gsz] | .con g h => by simp [gsz] | .dis g h => by simp [gsz]
theorem gdep_lt : ∀ g : Gate, gdep g < gsz g
  | .yes => by simp [gsz, gdep] | .no => by simp [gsz, gdep] | .lvl _ => by simp [gsz, gdep] | .und _ => by simp [gsz, gdep] | .has _ => by simp [gsz, gdep]
  | .neg g => by have := gdep_lt g; simp [gsz, gdep]; omega
  | .con g h => by have := gdep_lt g; have := gdep_lt h; simp [gsz, gdep]; omega
  | .dis g h => by have := gdep_lt g; have := gdep_lt h; simp [gsz, gdep]; omega
theorem gok_of : ∀ g : Gate, gfin g = true → gok g = true
  | .yes, _ => rfl | .no, _ => rfl | .lvl _, _ => rfl
  | .und x, h => by have := (isNm_iff.mp h).len; simp [gok]; omega
  | .has x, h => by simp only [gfin, Bool.and_eq_true, decide_eq_true_eq] at h; simp [gok]; omega
  | .neg g, h => gok_of g h
  | .con g k, h => by simp only [gfin, Bool.and_eq_true] at h; simp only [gok, gok_of g h.1, gok_of k h.2, Bool.and_true]
  | .dis g k, h => by simp only [gfin, Bool.and_eq_true] at h; simp only [gok, gok_of g h.1, gok_of k h.2, Bool.and_true]
end Dn
namespace GateDraw
open Dn PySem Lib LibC
abbrev env (d : D) (c : Int) (x3 x4 x5 x6 : Option D) : Rho := [some d, some (.ob 0), some (.int c), x3, x4, x5, x6]
structure Row (n : Nat) (row : List Gate) : Prop where
  l : row.length ≤ n
  d : (row.map gsz).sum ≤ n
  k : ∀ g ∈ row, gfin g = true
mutual
theorem eqS_rfl : ∀ d : D, eqS d d = true
  | .non => by simp [eqS]
  | .bl _ => by simp [eqS]
  | .int _ => by simp [eqS]
  | .str _ => by simp [eqS]
  | .tup ds => by simp only [eqS]; exact eqSL_rfl ds
  | .lst ds => by simp only [eqS]; exact eqSL_rfl ds
  | .scr ds => by simp only [eqS]; exact eqSL_rfl ds
  | .ob _ => by simp [eqS]
theorem eqSL_rfl : ∀ ds : List D, eqSL ds ds = true
  | [] => by simp [eqSL]
  | d :: ds => by simp only [eqSL, eqS_rfl d, eqSL_rfl ds, Bool.and_true]
end
end GateDraw
set_option linter.all false
set_option maxRecDepth 100000
set_option maxHeartbeats 4000000
namespace Dn
open PySem Lib LibC
def strg : Gate → Nat
  | .dis _ _ => 0
  | .con _ _ => 1
  | _ => 2
def brk (b : Bool) (x : Tx) : Tx := if b then 40 :: (x ++ [41]) else x
def gt : Gate → Tx
  | .yes => [121, 101, 115]
  | .no => [110, 111]
  | .lvl n => [108, 101, 118, 101, 108] ++ ([32] ++ TL.numL n.toNat)
  | .und x => [117, 110, 100, 101, 114] ++ ([32] ++ if x = [] then [42] else x)
  | .has x => [104, 97, 115] ++ ([32] ++ 39 :: (x ++ [39]))
  | .neg g => [110, 111, 116] ++ ([32] ++ brk (decide (strg g < 2)) (gt g))
  | .con g h => brk (decide (strg g < 1)) (gt g) ++ ([32] ++ ([97, 110, 100] ++ ([32] ++ brk (decide (strg h < 2)) (gt h))))
  | .dis g h => brk (decide (strg g < 0)) (gt g) ++ ([32] ++ ([111, 114] ++ ([32] ++ brk (decide (strg h < 1)) (gt h))))
def gtW (n : Nat) (g : Gate) : Tx := brk (decide (strg g < n)) (gt g)
theorem brk_len (b : Bool) (x : Tx) : (brk b x).length ≤ x.length + 2 := by unfold brk; split <;> simp
theorem gt_len : ∀ g : Gate, gfin g = true → (gt g).length + 20 ≤ 100 * gsz g
  | .yes, _ => by simp [gt, gsz] | .no, _ => by simp [gt, gsz]
  | .lvl n, h => by
    simp only [gfin, Bool.and_eq_true, decide_eq_true_eq] at h
    have := numL_len (n := n.toNat) (k := 2) (by omega) (by omega)
    simp [gt, gsz]; omega
  | .und x, h => by
    have := (isNm_iff.mp h).len
    simp only [gt, gsz]
    split <;> simp <;> omega
  | .has x, h => by
    simp only [gfin, Bool.and_eq_true, decide_eq_true_eq] at h
    simp [gt, gsz]; omega
  | .neg g, h => by
    have := gt_len g h
    have := brk_len (decide (strg g < 2)) (gt g)
    simp only [gt, gsz, List.length_append, List.length_cons, List.length_nil]; omega
  | .con g k, h => by
    simp only [gfin, Bool.and_eq_true] at h
    have := gt_len g h.1
    have := gt_len k h.2
    have := brk_len (decide (strg g < 1)) (gt g)
    have := brk_len (decide (strg k < 2)) (gt k)
    simp only [gt, gsz, List.length_append, List.length_cons, List.length_nil]; omega
  | .dis g k, h => by
    simp only [gfin, Bool.and_eq_true] at h
    have := gt_len g h.1
    have := gt_len k h.2
    have := brk_len (decide (strg g < 0)) (gt g)
    have := brk_len (decide (strg k < 1)) (gt k)
    simp only [gt, gsz, List.length_append, List.length_cons, List.length_nil]; omega
theorem strength_ok (g : Gate) (O : Sto) : closeFn fn_strength [gateD g] O = .ok (.int (strg g)) O := by
  refine close_ok (O' := []) (by simp [noObL, noOb_gate]) ?_ rfl
  cases g <;> simp [fn_strength, runFn_eq, B_strength, gateD, strg]
theorem within_of {m : Nat} {g : Gate} (hl : (gt g).length ≤ 1000000) (h : ∀ O, closeFn (fn_shown m) [gateD g] O = .ok (.str (gt g)) O) (n : Nat) (O : Sto) :
    closeFn (fn_shown_within (m + 1)) [gateD g, .int n] O = .ok (.str (gtW n g)) O := by
  refine close_ok (O' := []) (by simp [noObL, noOb_gate, noOb]) ?_ rfl
  have hj : joinE (consJ (constE (.str [40])) (consJ (fmtE (fnE 1 (closeFn (fn_shown m)) (consA (varE 0) nilA))) (consJ (constE (.str [41])) nilJ))) [some (gateD g), some (.int n)] [] = .ok (.str (40 :: (gt g ++ [41]))) [] := by
    have := joinE_ok (jp_cons (f := constE (.str [40])) (r := [some (gateD g), some (.int n)]) (O := []) rfl (jp_cons (fmt_str (f := fnE 1 (closeFn (fn_shown m)) (consA (varE 0) nilA)) (x := gt g) (by simp [h]) (by omega)) (jp_cons (f := constE (.str [41])) rfl jp_nil))) (by simp; omega)
    simpa using this
  have e := strength_ok g []
  show runFn 2 (B_shown_within (grp_shown_within m).1 (fn_shown m)) _ _ = _
  have hB : B_shown_within (grp_shown_within m).1 (fn_shown m) [some (gateD g), some (.int n)] [] = .ret (.str (gtW n g)) [] := by
    unfold B_shown_within gtW brk
    by_cases q : strg g < n
    · refine cs_ret (if_t (O1 := []) (by simp [e, q]) ?_)
      rw [ev_retS, hj]; simp [q]
    · refine cs_nx (r1 := [some (gateD g), some (.int n)]) (O1 := []) (if_f (O1 := []) (by simp [e]; omega) (by simp)) ?_
      simp [q, h]
  simp [runFn_eq, hB]
theorem shown_ok : ∀ (g : Gate) (n : Nat), 2 * gdep g < n → gfin g = true → gsz g ≤ 1000 → ∀ O, closeFn (fn_shown n) [gateD g] O = .ok (.str (gt g)) O
  | g, 0, h, _, _, O => absurd h (Nat.not_lt_zero _)
  | .yes, n + 1, _, hf, hz, O => by
    refine close_ok (O' := []) rfl ?_ rfl
    show runFn 3 (B_shown (fn_shown_within n) (fn_shown n)) [gateD .yes] [] = _
    simp [runFn_eq, B_shown, gateD, gt, in_yesno, sizeLine_nat]
  | .no, n + 1, _, hf, hz, O => by
    refine close_ok (O' := []) rfl ?_ rfl
    show runFn 3 (B_shown (fn_shown_within n) (fn_shown n)) [gateD .no] [] = _
    simp [runFn_eq, B_shown, gateD, gt, in_yesno, sizeLine_nat]
  | .lvl k, n + 1, _, hf, hz, O => by
    have hs : sizeLine = 16777216 := sizeLine_nat
    simp only [gfin, Bool.and_eq_true, decide_eq_true_eq] at hf
    obtain ⟨j, rfl⟩ : ∃ j : Nat, k = j := ⟨k.toNat, by omega⟩
    refine close_ok (O' := []) rfl ?_ rfl
    show runFn 3 (B_shown (fn_shown_within n) (fn_shown n)) _ _ = _
    have hl := numL_len (n := j) (k := 2) (by omega) (by omega)
    have hj := joinE_ok (jp_cons (f := constE (.str [108, 101, 118, 101, 108, 32])) (r := [some (gateD (.lvl j)), some (.str [108, 101, 118, 101, 108]), none]) (O := []) rfl (jp_cons (fmt_int (f := op2 ixD (varE 0) (constE (.int 1))) (n := j) (by simp [gateD]) (by omega)) jp_nil)) (by simp; omega)
    have hB : B_shown (fn_shown_within n) (fn_shown n) [some (gateD (.lvl j)), none, none] [] = .ret (.str (gt (.lvl j))) [] := by
      unfold B_shown
      refine cs_nx (r1 := [some (gateD (.lvl j)), some (.str [108, 101, 118, 101, 108]), none]) (O1 := []) (by simp [gateD]) ?_
      refine cs_nx (r1 := [some (gateD (.lvl j)), some (.str [108, 101, 118, 101, 108]), none]) (O1 := []) (by simp [in_yesno, hs]) ?_
      refine cs_ret (if_t (O1 := []) (by simp) ?_)
      rw [ev_retS, hj]; simp [gt]
    simp [runFn_eq, hB]
  | .und x, n + 1, _, hf, hz, O => by
    have hs : sizeLine = 16777216 := sizeLine_nat
    have hx := (isNm_iff.mp hf).len
    refine close_ok (O' := []) rfl ?_ rfl
    show runFn 3 (B_shown (fn_shown_within n) (fn_shown n)) _ _ = _
    by_cases q : x = []
    · subst q; simp [runFn_eq, B_shown, gateD, gt, in_yesno, hs]
    · have hxe : x.isEmpty = false := by cases x with | nil => exact absurd rfl q | cons => rfl
      simp [runFn_eq, B_shown, gateD, gt, in_yesno, hs, show x.length ≤ 16777216 by omega, hxe, q, show 6 + x.length ≤ 16777216 by omega]
  | .has x, n + 1, _, hf, hz, O => by
    have hs : sizeLine = 16777216 := sizeLine_nat
    simp only [gfin, Bool.and_eq_true, decide_eq_true_eq] at hf
    have hl := hf.1
    refine close_ok (O' := []) rfl ?_ rfl
    show runFn 3 (B_shown (fn_shown_within n) (fn_shown n)) _ _ = _
    have hj := joinE_ok (jp_cons (f := constE (.str [104, 97, 115, 32, 39])) (r := [some (gateD (.has x)), some (.str [104, 97, 115]), none]) (O := []) rfl (jp_cons (fmt_str (f := op2 ixD (varE 0) (constE (.int 1))) (x := x) (by simp [gateD]) (by omega)) (jp_cons (f := constE (.str [39])) rfl jp_nil))) (by simp; omega)
    have hB : B_shown (fn_shown_within n) (fn_shown n) [some (gateD (.has x)), none, none] [] = .ret (.str (gt (.has x))) [] := by
      unfold B_shown
      refine cs_nx (r1 := [some (gateD (.has x)), some (.str [104, 97, 115]), none]) (O1 := []) (by simp [gateD]) ?_
      refine cs_nx (r1 := [some (gateD (.has x)), some (.str [104, 97, 115]), none]) (O1 := []) (by simp [in_yesno, hs]) ?_
      refine cs_nx (r1 := [some (gateD (.has x)), some (.str [104, 97, 115]), none]) (O1 := []) (by simp) ?_
      refine cs_nx (r1 := [some (gateD (.has x)), some (.str [104, 97, 115]), none]) (O1 := []) (by simp) ?_
      refine cs_ret (if_t (O1 := []) (by simp) ?_)
      rw [ev_retS, hj]; simp [gt]
    simp [runFn_eq, hB]
  | .neg g, n + 1, hn, hf, hz, O => by
    have hs : sizeLine = 16777216 := sizeLine_nat
    simp only [gdep] at hn
    simp only [gsz] at hz
    obtain ⟨m, rfl⟩ : ∃ m, n = m + 1 := ⟨n - 1, by omega⟩
    have hfg : gfin g = true := hf
    have hgl := gt_len g hfg
    have e := within_of (by omega) (shown_ok g m (by omega) hfg (by omega)) 2
    have hwl := brk_len (decide (strg g < 2)) (gt g)
    refine close_ok (O' := []) (by simp [noObL, noOb_gate]) ?_ rfl
    show runFn 3 (B_shown (fn_shown_within (m + 1)) (fn_shown (m + 1))) _ _ = _
    have hj := joinE_ok (jp_cons (f := constE (.str [110, 111, 116, 32])) (r := [some (gateD (.neg g)), some (.str [110, 111, 116]), none]) (O := []) rfl (jp_cons (fmt_str (f := fnE 2 (closeFn (fn_shown_within (m + 1))) (consA (op2 ixD (varE 0) (constE (.int 1))) (consA (constE (.int 2)) nilA))) (x := gtW 2 g) (by simpa [gateD] using e []) (by unfold gtW; omega)) jp_nil)) (by simp only [gtW, List.map_cons, List.map_nil, List.sum_cons, List.sum_nil, List.length_cons, List.length_nil]; omega)
    have hB : B_shown (fn_shown_within (m + 1)) (fn_shown (m + 1)) [some (gateD (.neg g)), none, none] [] = .ret (.str (gt (.neg g))) [] := by
      unfold B_shown
      refine cs_nx (r1 := [some (gateD (.neg g)), some (.str [110, 111, 116]), none]) (O1 := []) (by simp [gateD]) ?_
      refine cs_nx (r1 := [some (gateD (.neg g)), some (.str [110, 111, 116]), none]) (O1 := []) (by simp [in_yesno, hs]) ?_
      refine cs_nx (r1 := [some (gateD (.neg g)), some (.str [110, 111, 116]), none]) (O1 := []) (by simp) ?_
      refine cs_nx (r1 := [some (gateD (.neg g)), some (.str [110, 111, 116]), none]) (O1 := []) (by simp) ?_
      refine cs_nx (r1 := [some (gateD (.neg g)), some (.str [110, 111, 116]), none]) (O1 := []) (by simp) ?_
      refine cs_ret (if_t (O1 := []) (by simp) ?_)
      rw [ev_retS, hj]; simp [gt, gtW]
    simp [runFn_eq, hB]
  | .con g k, n + 1, hn, hf, hz, O => by
    have hs : sizeLine = 16777216 := sizeLine_nat
    simp only [gdep] at hn
    simp only [gsz] at hz
    simp only [gfin, Bool.and_eq_true] at hf
    obtain ⟨m, rfl⟩ : ∃ m, n = m + 1 := ⟨n - 1, by omega⟩
    have hgl := gt_len g hf.1
    have hkl := gt_len k hf.2
    have e1 := within_of (by omega) (shown_ok g m (by omega) hf.1 (by omega)) 1
    have e2 := within_of (by omega) (shown_ok k m (by omega) hf.2 (by omega)) 2
    have hwl := brk_len (decide (strg g < 1)) (gt g)
    have hwk := brk_len (decide (strg k < 2)) (gt k)
    have es := strength_ok (.con g k)
    refine close_ok (O' := []) (by simp [noObL, noOb_gate]) ?_ rfl
    show runFn 3 (B_shown (fn_shown_within (m + 1)) (fn_shown (m + 1))) _ _ = _
    have hj := joinE_ok (jp_cons (fmt_str (f := fnE 2 (closeFn (fn_shown_within (m + 1))) (consA (op2 ixD (varE 0) (constE (.int 1))) (consA (varE 2) nilA))) (r := [some (gateD (.con g k)), some (.str [97, 110, 100]), some (.int 1)]) (O := []) (x := gtW 1 g) (by simpa [gateD] using e1 []) (by unfold gtW; omega)) (jp_cons (f := constE (.str [32])) rfl (jp_cons (fmt_str (f := varE 1) (x := [97, 110, 100]) (by simp) (by simp)) (jp_cons (f := constE (.str [32])) rfl (jp_cons (fmt_str (f := fnE 2 (closeFn (fn_shown_within (m + 1))) (consA (op2 ixD (varE 0) (constE (.int 2))) (consA (op2 (addD false) (varE 2) (constE (.int 1))) nilA))) (x := gtW 2 k) (by simpa [gateD] using e2 []) (by unfold gtW; omega)) jp_nil))))) (by simp only [gtW, List.map_cons, List.map_nil, List.sum_cons, List.sum_nil, List.length_cons, List.length_nil]; omega)
    have hB : B_shown (fn_shown_within (m + 1)) (fn_shown (m + 1)) [some (gateD (.con g k)), none, none] [] = .ret (.str (gt (.con g k))) [] := by
      unfold B_shown
      refine cs_nx (r1 := [some (gateD (.con g k)), some (.str [97, 110, 100]), none]) (O1 := []) (by simp [gateD]) ?_
      refine cs_nx (r1 := [some (gateD (.con g k)), some (.str [97, 110, 100]), none]) (O1 := []) (by simp [in_yesno, hs]) ?_
      refine cs_nx (r1 := [some (gateD (.con g k)), some (.str [97, 110, 100]), none]) (O1 := []) (by simp) ?_
      refine cs_nx (r1 := [some (gateD (.con g k)), some (.str [97, 110, 100]), none]) (O1 := []) (by simp) ?_
      refine cs_nx (r1 := [some (gateD (.con g k)), some (.str [97, 110, 100]), none]) (O1 := []) (by simp) ?_
      refine cs_nx (r1 := [some (gateD (.con g k)), some (.str [97, 110, 100]), none]) (O1 := []) (by simp) ?_
      refine cs_nx (r1 := [some (gateD (.con g k)), some (.str [97, 110, 100]), some (.int 1)]) (O1 := []) (by simp [es, strg]) ?_
      rw [ev_retS, hj]; simp [gt, gtW]
    simp [runFn_eq, hB]
  | .dis g k, n + 1, hn, hf, hz, O => by
    have hs : sizeLine = 16777216 := sizeLine_nat
    simp only [gdep] at hn
    simp only [gsz] at hz
    simp only [gfin, Bool.and_eq_true] at hf
    obtain ⟨m, rfl⟩ : ∃ m, n = m + 1 := ⟨n - 1, by omega⟩
    have hgl := gt_len g hf.1
    have hkl := gt_len k hf.2
    have e1 := within_of (by omega) (shown_ok g m (by omega) hf.1 (by omega)) 0
    have e2 := within_of (by omega) (shown_ok k m (by omega) hf.2 (by omega)) 1
    have hwl := brk_len (decide (strg g < 0)) (gt g)
    have hwk := brk_len (decide (strg k < 1)) (gt k)
    have es := strength_ok (.dis g k)
    refine close_ok (O' := []) (by simp [noObL, noOb_gate]) ?_ rfl
    show runFn 3 (B_shown (fn_shown_within (m + 1)) (fn_shown (m + 1))) _ _ = _
    have hj := joinE_ok (jp_cons (fmt_str (f := fnE 2 (closeFn (fn_shown_within (m + 1))) (consA (op2 ixD (varE 0) (constE (.int 1))) (consA (varE 2) nilA))) (r := [some (gateD (.dis g k)), some (.str [111, 114]), some (.int 0)]) (O := []) (x := gtW 0 g) (by simpa [gateD] using e1 []) (by unfold gtW; omega)) (jp_cons (f := constE (.str [32])) rfl (jp_cons (fmt_str (f := varE 1) (x := [111, 114]) (by simp) (by simp)) (jp_cons (f := constE (.str [32])) rfl (jp_cons (fmt_str (f := fnE 2 (closeFn (fn_shown_within (m + 1))) (consA (op2 ixD (varE 0) (constE (.int 2))) (consA (op2 (addD false) (varE 2) (constE (.int 1))) nilA))) (x := gtW 1 k) (by simpa [gateD] using e2 []) (by unfold gtW; omega)) jp_nil))))) (by simp only [gtW, List.map_cons, List.map_nil, List.sum_cons, List.sum_nil, List.length_cons, List.length_nil]; omega)
    have hB : B_shown (fn_shown_within (m + 1)) (fn_shown (m + 1)) [some (gateD (.dis g k)), none, none] [] = .ret (.str (gt (.dis g k))) [] := by
      unfold B_shown
      refine cs_nx (r1 := [some (gateD (.dis g k)), some (.str [111, 114]), none]) (O1 := []) (by simp [gateD]) ?_
      refine cs_nx (r1 := [some (gateD (.dis g k)), some (.str [111, 114]), none]) (O1 := []) (by simp [in_yesno, hs]) ?_
      refine cs_nx (r1 := [some (gateD (.dis g k)), some (.str [111, 114]), none]) (O1 := []) (by simp) ?_
      refine cs_nx (r1 := [some (gateD (.dis g k)), some (.str [111, 114]), none]) (O1 := []) (by simp) ?_
      refine cs_nx (r1 := [some (gateD (.dis g k)), some (.str [111, 114]), none]) (O1 := []) (by simp) ?_
      refine cs_nx (r1 := [some (gateD (.dis g k)), some (.str [111, 114]), none]) (O1 := []) (by simp) ?_
      refine cs_nx (r1 := [some (gateD (.dis g k)), some (.str [111, 114]), some (.int 0)]) (O1 := []) (by simp [es, strg]) ?_
      rw [ev_retS, hj]; simp [gt, gtW]
    simp [runFn_eq, hB]
end Dn
set_option linter.all false
set_option maxRecDepth 100000
set_option maxHeartbeats 4000000
namespace Dn
open PySem Lib LibC
def GS : List Nat := [97, 98, 99, 100, 101, 102, 103, 104, 105, 106, 107, 108, 109, 110, 111, 112, 113, 114, 115, 116, 117, 118, 119, 120, 121, 122, 48, 49, 50, 51, 52, 53, 54, 55, 56, 57, 95, 46, 42]
def inGS (c : Nat) : Bool := GS.contains c
theorem in_gs (c : Nat) (O : Sto) : inB false (.str [c]) c_SIGNS_gatetext O = .ok (.bl (inGS c)) O := by
  have : c_SIGNS_gatetext = .str GS := rfl
  rw [this, op_inS, sub_one]
  simp [inGS, GS]
theorem notin_op (c : Nat) (O : Sto) : inB true (.str [c]) (.str [40, 41, 32]) O = .ok (.bl (!(decide (c = 40) || (decide (c = 41) || decide (c = 32))))) O := by
  rw [op_inS, sub_one]
  simp [List.contains_cons]
abbrev Tk := Tx × Int
def tkD (p : Tk) : D := .tup [.str p.1, .int p.2]
abbrev envT (T : Tx) (i : Nat) (x : Option D) : Rho := [some (.str T), some (.ob 0), some (.int i), x]
abbrev tcond : Rho → Sto → Res Bool := cmpT ltD (varE 2) (callE lenF (consA (varE 0) nilA))
def Sep (post : Tx) : Prop := ∀ c r, post = c :: r → inGS c = false
def LexB (s : Tx) (ws : List Tx) (b : Bool) : Prop := ∀ (pre post : Tx) (f : List D) (n : Nat) (x : Option D), (pre ++ (s ++ post)).length ≤ 5000 → f.length + s.length ≤ 5000 → s.length ≤ n → (b = true → Sep post) →
  ∃ (n' : Nat) (l : List Tk) (x' : Option D), n ≤ n' + s.length ∧ l.length ≤ s.length ∧ l.map Prod.fst = ws ∧
    whileL tcond Q_tokens_2 n (envT (pre ++ (s ++ post)) pre.length x) [.lst f] = whileL tcond Q_tokens_2 n' (envT (pre ++ (s ++ post)) (pre.length + s.length) x') [.lst (f ++ l.map tkD)]
theorem LexB.app {s1 s2 : Tx} {w1 w2 : List Tx} {b1 b2 : Bool} (h1 : LexB s1 w1 b1) (h2 : LexB s2 w2 b2) (hj : b1 = true → ∃ c r, s2 = c :: r ∧ inGS c = false) : LexB (s1 ++ s2) (w1 ++ w2) b2 := by
  intro pre post f n x hT hf hn hb
  simp only [List.length_append] at hT hf hn
  obtain ⟨n1, l1, x1, a1, a2, a3, a4⟩ := h1 pre (s2 ++ post) f n x (by simp; omega) (by omega) (by omega) (by
    intro z c r e
    obtain ⟨c', r', e', hc⟩ := hj z
    rw [e', List.cons_append] at e
    cases e; exact hc)
  obtain ⟨n2, l2, x2, c1, c2, c3, c4⟩ := h2 (pre ++ s1) post (f ++ l1.map tkD) n1 x1 (by simp; omega) (by simp; omega) (by omega) hb
  refine ⟨n2, l1 ++ l2, x2, by simp; omega, by simp; omega, by simp [a3, c3], ?_⟩
  have e1 : pre ++ (s1 ++ s2 ++ post) = pre ++ (s1 ++ (s2 ++ post)) := by simp
  have e2 : pre ++ s1 ++ (s2 ++ post) = pre ++ (s1 ++ (s2 ++ post)) := by simp
  rw [e2] at c4
  rw [e1, a4]
  rw [List.length_append] at c4
  rw [c4]
  simp [Nat.add_assoc]
theorem LexB.weak {s : Tx} {w : List Tx} (h : LexB s w false) (b : Bool) : LexB s w b := fun pre post f n x h1 h2 h3 _ => h pre post f n x h1 h2 h3 (by simp)
theorem tc_t (pre r : Tx) (c : Nat) (x : Option D) (h : (pre ++ c :: r).length ≤ 5000) (O : Sto) : tcond (envT (pre ++ c :: r) pre.length x) O = .ok true O := by
  have hs : sizeLine = 16777216 := sizeLine_nat
  simp only [List.length_append, List.length_cons] at h
  simp [tcond, hs, show pre.length + (r.length + 1) ≤ 16777216 by omega]
  omega
theorem tk_app (f : List D) (d : D) (h : f.length ≤ 5000) (O : Sto) : appendF (.ob 0) [d] [.lst f] = .ok .non [.lst (f ++ [d])] := by
  have hs : sizeLine = 16777216 := sizeLine_nat
  simp [appendF, hs, show f.length < 16777216 by omega]
theorem lex_sp : LexB [32] [] false := by
  have hs : sizeLine = 16777216 := sizeLine_nat
  intro pre post f n x hT hf hn _
  obtain ⟨m, rfl⟩ : ∃ m, n = m + 1 := ⟨n - 1, by simp at hn; omega⟩
  have hT' : (pre ++ 32 :: post).length ≤ 5000 := hT
  have hi := ix_at pre post 32 [.lst f] (by omega)
  have e0 : pre ++ ([32] ++ post) = pre ++ 32 :: post := by simp
  refine ⟨m, [], some (.int pre.length), by simp, by simp, rfl, ?_⟩
  rw [e0]
  refine while_t (r2 := envT (pre ++ 32 :: post) (pre.length + [32].length) (some (.int pre.length))) (O1 := [.lst f]) (O2 := [.lst f]) (tc_t pre post 32 x hT' _) ?_ (by simp)
  have g1 := in_gs 32 [.lst f]
  have g2 := notin_op 32 [.lst f]
  rw [show inGS 32 = false from by decide] at g1
  generalize pre ++ 32 :: post = T at *
  simp [Q_tokens_2, hi, g1, g2]
theorem lex_op (c : Nat) (hc : c = 40 ∨ c = 41) : LexB [c] [[c]] false := by
  have hs : sizeLine = 16777216 := sizeLine_nat
  intro pre post f n x hT hf hn _
  obtain ⟨m, rfl⟩ : ∃ m, n = m + 1 := ⟨n - 1, by simp at hn; omega⟩
  have hT' : (pre ++ c :: post).length ≤ 5000 := hT
  have hi := ix_at pre post c [.lst f] (by omega)
  have hi' : ∀ O, ixD (.str (pre ++ c :: post)) (.int pre.length) O = .ok (.str [c]) O := fun O => ix_at pre post c O (by omega)
  have e0 : pre ++ ([c] ++ post) = pre ++ c :: post := by simp
  have hcut : cutD (pre ++ c :: post) (some (pre.length : Int)) (some ((pre.length : Int) + 1)) = [c] := by
    have := cut_mid pre (c :: post) 1
    simpa using this
  have hap := tk_app f (tkD ([c], pre.length)) (by simp at hf; omega) []
  refine ⟨m, [([c], pre.length)], some (.int pre.length), by simp, by simp, rfl, ?_⟩
  rw [e0]
  refine while_t (r2 := envT (pre ++ c :: post) (pre.length + [c].length) (some (.int pre.length))) (O1 := [.lst f]) (O2 := [.lst (f ++ [tkD ([c], pre.length)])]) (tc_t pre post c x hT' _) ?_ (by simp)
  have g1 := fun O => in_gs c O
  have g2 := fun O => notin_op c O
  have hTl : (pre ++ c :: post).length ≤ 16777216 := by omega
  have tl : tyLst (.ob 0) [.lst f] = true := by simp [tyLst, listR, listS]
  rw [show inGS c = false from by rcases hc with rfl | rfl <;> decide] at g1
  simp only [tkD] at hap ⊢
  generalize pre ++ c :: post = T at *
  rcases hc with rfl | rfl
  · simp [Q_tokens_2, hi', g1, g2, hs, hTl, hcut, tl, hap]
  · simp [Q_tokens_2, hi', g1, g2, hs, hTl, hcut, tl, hap]
/-- a word's signs -/
theorem word_run (x0 : Nat) (w0 : Tx) : ∀ (w : Tx) (pre post : Tx) (n : Nat) (f : List D), (∀ c ∈ w, inGS c = true) → Sep post → (pre ++ (w ++ post)).length ≤ 5000 → w.length < n →
    whileL (andT (cmpT ltD (varE 2) (callE lenF (consA (varE 0) nilA))) (cmpT (inB false) (op2 ixD (varE 0) (varE 2)) (constE c_SIGNS_gatetext))) Q_tokens_1 n [some (.str (pre ++ (w ++ post))), some (.ob 0), some (.int pre.length), some (.int x0)] [.lst f] =
      .nx [some (.str (pre ++ (w ++ post))), some (.ob 0), some (.int ((pre.length + w.length : Nat) : Int)), some (.int x0)] [.lst f]
  | [], pre, post, 0, f, _, _, _, h => absurd h (Nat.not_lt_zero _)
  | c :: w, pre, post, 0, f, _, _, _, h => absurd h (Nat.not_lt_zero _)
  | [], pre, post, n + 1, f, _, hp, hT, _ => by
    have hs : sizeLine = 16777216 := sizeLine_nat
    rw [List.nil_append] at hT ⊢
    refine while_f ?_
    cases post with
    | nil =>
      simp only [List.append_nil] at hT ⊢
      simp [hs, show pre.length ≤ 16777216 by omega]
    | cons c r =>
      have hi := ix_at pre r c [.lst f] (by omega)
      have g := in_gs c [.lst f]
      rw [hp c r rfl] at g
      have hT2 : (pre ++ c :: r).length ≤ 16777216 := by omega
      generalize hq : pre ++ c :: r = T at *
      simp [hs, hT2, hi, g]
  | c :: w, pre, post, n + 1, f, hw, hp, hT, hn => by
    have hs : sizeLine = 16777216 := sizeLine_nat
    have e1 : pre ++ (c :: w ++ post) = pre ++ [c] ++ (w ++ post) := by simp
    have ih := word_run x0 w0 w (pre ++ [c]) post n f (fun d hd => hw d (by simp [hd])) hp (by rw [← e1]; exact hT) (by simp at hn; omega)
    have hi := ix_at pre (w ++ post) c [.lst f] (by simp only [List.length_append, List.length_cons] at hT ⊢; omega)
    have g := in_gs c [.lst f]
    rw [hw c (by simp)] at g
    have e2 : pre ++ c :: (w ++ post) = pre ++ [c] ++ (w ++ post) := by simp
    have hlt : (pre.length : Int) < (pre ++ [c] ++ (w ++ post)).length := by simp only [List.length_append, List.length_cons, List.length_nil]; omega
    have hT2 : (pre ++ [c] ++ (w ++ post)).length ≤ 16777216 := by rw [← e1]; omega
    have l1 : (pre ++ [c]).length = pre.length + 1 := by simp
    rw [e2] at hi
    rw [l1] at ih
    rw [e1, show pre.length + (c :: w).length = pre.length + 1 + w.length from by simp; omega]
    generalize pre ++ [c] ++ (w ++ post) = T at *
    refine while_t (r2 := [some (.str T), some (.ob 0), some (.int ((pre.length + 1 : Nat) : Int)), some (.int x0)]) (O1 := [.lst f]) (O2 := [.lst f]) (by simp [hs, hT2, hi, g, hlt]) (by simp [Q_tokens_1]) ih
theorem lex_wd (c : Nat) (w : Tx) (hw : ∀ d ∈ c :: w, inGS d = true) : LexB (c :: w) [c :: w] true := by
  have hs : sizeLine = 16777216 := sizeLine_nat
  intro pre post f n x hT hf hn hp
  obtain ⟨m, rfl⟩ : ∃ m, n = m + 1 := ⟨n - 1, by simp at hn; omega⟩
  have hT0 := hT
  simp only [List.length_append, List.length_cons] at hT0 hf hn
  have hi' : ∀ O, ixD (.str (pre ++ c :: (w ++ post))) (.int pre.length) O = .ok (.str [c]) O := fun O => ix_at pre (w ++ post) c O (by simp; omega)
  have hcut : cutD (pre ++ c :: (w ++ post)) (some (pre.length : Int)) (some ((pre.length : Int) + (((c :: w).length : Nat) : Int))) = c :: w := by
    have := cut_mid pre (c :: (w ++ post)) (c :: w).length
    rw [this]
    rw [← List.cons_append, List.take_left' rfl]
  have hap := tk_app f (tkD (c :: w, pre.length)) (by omega) []
  have wr := word_run pre.length w w (pre ++ [c]) post 100000 f (fun d hd => hw d (by simp [hd])) (hp rfl) (by simp; omega) (by omega)
  have l1 : (pre ++ [c]).length = pre.length + 1 := by simp
  rw [l1] at wr
  refine ⟨m, [(c :: w, pre.length)], some (.int pre.length), by simp, by simp, rfl, ?_⟩
  have e0 : pre ++ (c :: w ++ post) = pre ++ c :: (w ++ post) := by simp
  have e1 : pre ++ [c] ++ (w ++ post) = pre ++ c :: (w ++ post) := by simp
  rw [e1] at wr
  rw [e0]
  refine while_t (r2 := envT (pre ++ c :: (w ++ post)) (pre.length + (c :: w).length) (some (.int pre.length))) (O1 := [.lst f]) (O2 := [.lst (f ++ [tkD (c :: w, pre.length)])]) (tc_t pre (w ++ post) c x (by simp; omega) _) ?_ (by simp)
  have g1 := fun O => in_gs c O
  rw [hw c (by simp)] at g1
  have hTl : (pre ++ c :: (w ++ post)).length ≤ 16777216 := by simp; omega
  have tl : tyLst (.ob 0) [.lst f] = true := by simp [tyLst, listR, listS]
  have q1 : c ≠ 39 := by rintro rfl; have := hw 39 (by simp); simp [inGS, GS] at this
  have q2 : c ≠ 32 := by rintro rfl; have := hw 32 (by simp); simp [inGS, GS] at this
  have hln : ((pre.length + 1 + w.length : Nat) : Int) = (pre.length : Int) + (((c :: w).length : Nat) : Int) := by simp; omega
  rw [hln] at wr
  simp only [tkD] at hap ⊢
  generalize (c :: w).length = k at *
  generalize pre ++ c :: (w ++ post) = T at *
  unfold Q_tokens_2
  refine cs_nx (r1 := [some (.str T), some (.ob 0), some (.int pre.length), some (.int pre.length)]) (O1 := [.lst f]) (by simp) ?_
  refine cs_nx (r1 := [some (.str T), some (.ob 0), some (.int ((pre.length + 1 : Nat) : Int)), some (.int pre.length)]) (O1 := [.lst f]) (by simp) ?_
  refine cs_nx (r1 := [some (.str T), some (.ob 0), some (.int ((pre.length : Int) + (k : Int))), some (.int pre.length)]) (O1 := [.lst f]) ?_ ?_
  · refine if_f (O1 := [.lst f]) (by simp [hi', q1]) (if_t (O1 := [.lst f]) (by simp [hi', g1]) ?_)
    exact wr
  · simp [hi', q2, hs, hTl, hcut, tl, hap]
theorem lex_qt (x : Tx) (hx : 39 ∉ x) : LexB (39 :: (x ++ [39])) [39 :: (x ++ [39])] false := by
  have hs : sizeLine = 16777216 := sizeLine_nat
  intro pre post f n x3 hT hf hn _
  obtain ⟨m, rfl⟩ : ∃ m, n = m + 1 := ⟨n - 1, by simp at hn; omega⟩
  have hT0 := hT
  simp only [List.length_append, List.length_cons, List.length_nil] at hT0 hf hn
  have hi' : ∀ O, ixD (.str (pre ++ 39 :: (x ++ 39 :: post))) (.int pre.length) O = .ok (.str [39]) O := fun O => ix_at pre (x ++ 39 :: post) 39 O (by simp; omega)
  have hcut : cutD (pre ++ 39 :: (x ++ 39 :: post)) (some (pre.length : Int)) (some ((pre.length : Int) + ((x.length + 2 : Nat) : Int))) = 39 :: (x ++ [39]) := by
    have := cut_mid pre (39 :: (x ++ 39 :: post)) (x.length + 2)
    rw [this]
    have e : 39 :: (x ++ 39 :: post) = (39 :: (x ++ [39])) ++ post := by simp
    rw [e, List.take_left' (by simp)]
  have hfd := find_at (pre ++ [39]) x post 39 hx
  have l1 : (pre ++ [39]).length = pre.length + 1 := by simp
  have e1 : pre ++ [39] ++ (x ++ 39 :: post) = pre ++ 39 :: (x ++ 39 :: post) := by simp
  rw [e1, l1] at hfd
  have hap := tk_app f (tkD (39 :: (x ++ [39]), pre.length)) (by omega) []
  refine ⟨m, [(39 :: (x ++ [39]), pre.length)], some (.int pre.length), by simp <;> omega, by simp, rfl, ?_⟩
  have e0 : pre ++ (39 :: (x ++ [39]) ++ post) = pre ++ 39 :: (x ++ 39 :: post) := by simp
  rw [e0]
  refine while_t (r2 := envT (pre ++ 39 :: (x ++ 39 :: post)) (pre.length + (39 :: (x ++ [39])).length) (some (.int pre.length))) (O1 := [.lst f]) (O2 := [.lst (f ++ [tkD (39 :: (x ++ [39]), pre.length)])]) (tc_t pre (x ++ 39 :: post) 39 x3 (by simp; omega) _) ?_ (by simp)
  have hTl : (pre ++ 39 :: (x ++ 39 :: post)).length ≤ 16777216 := by simp; omega
  have tl : tyLst (.ob 0) [.lst f] = true := by simp [tyLst, listR, listS]
  have hlk : (39 :: (x ++ [39])).length = x.length + 2 := by simp
  rw [hlk]
  simp only [tkD] at hap ⊢
  generalize (39 :: (x ++ [39])) = Y at *
  have hend : (((pre.length + 1 + x.length : Nat) : Int) + 1) = (pre.length : Int) + ((x.length + 2 : Nat) : Int) := by omega
  generalize x.length + 2 = k at *
  generalize pre ++ 39 :: (x ++ 39 :: post) = T at *
  unfold Q_tokens_2
  refine cs_nx (r1 := [some (.str T), some (.ob 0), some (.int pre.length), some (.int pre.length)]) (O1 := [.lst f]) (by simp) ?_
  refine cs_nx (r1 := [some (.str T), some (.ob 0), some (.int ((pre.length + 1 : Nat) : Int)), some (.int pre.length)]) (O1 := [.lst f]) (by simp) ?_
  refine cs_nx (r1 := [some (.str T), some (.ob 0), some (.int ((pre.length : Int) + (k : Int))), some (.int pre.length)]) (O1 := [.lst f]) ?_ ?_
  · refine if_t (O1 := [.lst f]) (by simp [hi']) ?_
    refine cs_nx (r1 := [some (.str T), some (.ob 0), some (.int ((pre.length : Int) + (k : Int))), some (.int pre.length)]) (O1 := [.lst f]) ?_ (if_f (O1 := [.lst f]) ?_ (by simp))
    · have hf2 : find2F (.str T) [.str [39], .int ((pre.length + 1 : Nat) : Int)] [.lst f] = .ok (.int ((pre.length + 1 + x.length : Nat) : Int)) [.lst f] := by
        simp only [find2F]
        rw [hfd]; rfl
      rw [← hend]
      have e5 : bmE tyStr find2F (varE 0) (consA (constE (.str [39])) (consA (varE 2) nilA)) [some (.str T), some (.ob 0), some (.int ((pre.length + 1 : Nat) : Int)), some (.int pre.length)] [.lst f] = .ok (.int ((pre.length + 1 + x.length : Nat) : Int)) [.lst f] := by
        rw [ev_bmE]
        simp only [ev_var', List.getElem?_cons_zero, List.getElem?_cons_succ, bind_ok', tyStr, if_true, ev_consA, ev_const, ev_nilA]
        exact hf2
      rw [ev_setS, ev_op2, e5]
      simp
    · simp; omega
  · simp [hi', hs, hTl, hcut, tl, hap]
end Dn
set_option linter.all false
set_option maxRecDepth 100000
set_option maxHeartbeats 4000000
namespace Dn
open PySem Lib LibC
def brkW (b : Bool) (x : List Tx) : List Tx := if b then [40] :: (x ++ [[41]]) else x
def gw : Gate → List Tx
  | .yes => [[121, 101, 115]]
  | .no => [[110, 111]]
  | .lvl n => [[108, 101, 118, 101, 108], TL.numL n.toNat]
  | .und x => [[117, 110, 100, 101, 114], if x = [] then [42] else x]
  | .has x => [[104, 97, 115], 39 :: (x ++ [39])]
  | .neg g => [110, 111, 116] :: brkW (decide (strg g < 2)) (gw g)
  | .con g h => brkW (decide (strg g < 1)) (gw g) ++ [97, 110, 100] :: brkW (decide (strg h < 2)) (gw h)
  | .dis g h => brkW (decide (strg g < 0)) (gw g) ++ [111, 114] :: brkW (decide (strg h < 1)) (gw h)
def gwW (n : Nat) (g : Gate) : List Tx := brkW (decide (strg g < n)) (gw g)
theorem wd (w : Tx) (h : w ≠ []) (hw : ∀ d ∈ w, inGS d = true) : LexB w [w] true := by
  cases w with
  | nil => exact absurd rfl h
  | cons c w => exact lex_wd c w hw
theorem lex_brk (b : Bool) {x : Tx} {ws : List Tx} (h : LexB x ws true) : LexB (brk b x) (brkW b ws) true := by
  cases b with
  | false => exact h
  | true =>
    have h1 := (h.app ((lex_op 41 (.inr rfl)).weak true) fun _ => ⟨41, [], rfl, by decide⟩)
    have h2 := (lex_op 40 (.inl rfl)).app h1 (by simp)
    exact h2
theorem lex_sp1 {s : Tx} {ws : List Tx} {b : Bool} (h : LexB s ws b) : LexB ([32] ++ s) ws b := by
  have := lex_sp.app h (by simp)
  simpa using this
theorem sp_head (s : Tx) : ∃ c r, [32] ++ s = c :: r ∧ inGS c = false := ⟨32, s, rfl, by decide⟩
theorem gs_num {n : Nat} : ∀ d ∈ TL.numL n, inGS d = true := fun d hd => by
  obtain ⟨h1, h2⟩ := digit_lt d hd
  have : d = 48 ∨ d = 49 ∨ d = 50 ∨ d = 51 ∨ d = 52 ∨ d = 53 ∨ d = 54 ∨ d = 55 ∨ d = 56 ∨ d = 57 := by omega
  rcases this with rfl | rfl | rfl | rfl | rfl | rfl | rfl | rfl | rfl | rfl <;> decide
theorem sg_gs : ∀ c ∈ SG, inGS c = true := by decide
theorem gs_name {x : Tx} (h : Nm x) : ∀ d ∈ x, inGS d = true := fun d hd => by
  rcases h.chars d hd with q | rfl
  · exact sg_gs d q
  · decide
theorem lex_gate : ∀ g : Gate, gfin g = true → LexB (gt g) (gw g) true
  | .yes, _ => wd [121, 101, 115] (by simp) (by decide)
  | .no, _ => wd [110, 111] (by simp) (by decide)
  | .lvl n, _ => (wd [108, 101, 118, 101, 108] (by simp) (by decide)).app (lex_sp1 (wd (TL.numL n.toNat) (numL_ne _) gs_num)) fun _ => sp_head _
  | .und x, h => by
    refine (wd [117, 110, 100, 101, 114] (by simp) (by decide)).app (w2 := [if x = [] then [42] else x]) (lex_sp1 ?_) fun _ => sp_head _
    by_cases q : x = []
    · subst q; exact wd _ (by simp) (by decide)
    · rw [if_neg q]; exact wd x q (gs_name (isNm_iff.mp h))
  | .has x, h => by
    simp only [gfin, Bool.and_eq_true, decide_eq_true_eq, List.all_eq_true] at h
    refine (wd [104, 97, 115] (by simp) (by decide)).app (w2 := [39 :: (x ++ [39])]) (lex_sp1 ((lex_qt x fun z => (h.2 39 z).2.2 rfl).weak true)) fun _ => sp_head _
  | .neg g, h => (wd [110, 111, 116] (by simp) (by decide)).app (lex_sp1 (lex_brk _ (lex_gate g h))) fun _ => sp_head _
  | .con g k, h => by
    simp only [gfin, Bool.and_eq_true] at h
    exact (lex_brk _ (lex_gate g h.1)).app (lex_sp1 ((wd [97, 110, 100] (by simp) (by decide)).app (lex_sp1 (lex_brk _ (lex_gate k h.2))) fun _ => sp_head _)) fun _ => sp_head _
  | .dis g k, h => by
    simp only [gfin, Bool.and_eq_true] at h
    exact (lex_brk _ (lex_gate g h.1)).app (lex_sp1 ((wd [111, 114] (by simp) (by decide)).app (lex_sp1 (lex_brk _ (lex_gate k h.2))) fun _ => sp_head _)) fun _ => sp_head _
theorem noOb_tk : ∀ l : List Tk, noObL (l.map tkD) = true
  | [] => rfl
  | p :: l => by simp only [List.map_cons, noObL, tkD, noOb, Bool.true_and]; exact noOb_tk l
theorem tokens_ok {s : Tx} {ws : List Tx} {b : Bool} (h : LexB s ws b) (hl : s.length ≤ 4000) (O : Sto) : ∃ l : List Tk, l.map Prod.fst = ws ++ [[]] ∧ l.length ≤ 4001 ∧ closeFn fn_tokens [.str s] O = .ok (.lst (l.map tkD)) O := by
  have hs : sizeLine = 16777216 := sizeLine_nat
  obtain ⟨n, l, x, a1, a2, a3, a4⟩ := h [] [] [] 100000 none (by simp; omega) (by simp; omega) (by omega) (fun _ c r e => by cases e)
  simp only [List.nil_append, List.append_nil, List.length_nil, Nat.zero_add] at a4
  obtain ⟨m, rfl⟩ : ∃ m, n = m + 1 := ⟨n - 1, by omega⟩
  have we : whileL tcond Q_tokens_2 (m + 1) (envT s s.length x) [.lst (l.map tkD)] = .nx (envT s s.length x) [.lst (l.map tkD)] :=
    while_f (O1 := [.lst (l.map tkD)]) (by simp [tcond, hs, show s.length ≤ 16777216 by omega])
  rw [we] at a4
  refine ⟨l ++ [(([], (s.length : Int)) : Tk)], by rw [List.map_append, a3]; rfl, by rw [List.length_append]; simp only [List.length_cons, List.length_nil]; omega, close_ok (O' := [.lst (l.map tkD)]) rfl ?_ (by simp only [noOb]; exact noOb_tk _)⟩
  have hB : B_tokens [some (.str s), none, none, none] [] = .ret (.lst ((l ++ [([], (s.length : Int))]).map tkD)) [.lst (l.map tkD)] := by
    unfold B_tokens
    refine cs_nx (r1 := [some (.str s), some (.ob 0), none, none]) (O1 := [.lst []]) (by simp) ?_
    refine cs_nx (r1 := [some (.str s), some (.ob 0), some (.int 0), none]) (O1 := [.lst []]) (by simp) ?_
    refine cs_nx (r1 := envT s s.length x) (O1 := [.lst (l.map tkD)]) (by rw [ev_whileS]; exact a4) ?_
    rw [List.map_append, List.map_cons, List.map_nil]
    have hll : (l.map tkD).length = l.length := by simp
    generalize l.map tkD = L at *
    simp [hs, show s.length ≤ 16777216 by omega, addD, seqR, listR, listS, hll, show l.length + 1 ≤ 16777216 by omega, tkD]
  simp [fn_tokens, runFn_eq, hB]
end Dn
set_option linter.all false
set_option maxRecDepth 100000
set_option maxHeartbeats 4000000
namespace Dn
open PySem Lib LibC
abbrev SR0 (l : List Tk) (d : Int) : Sto := [.ins 6 [(20, .lst (l.map tkD)), (21, .int d)]]
theorem nw_ok (w : Tx) (p : Int) (l : List Tk) (d : Int) : fn_Reader_next_word [.ob 0] (SR0 ((w, p) :: l) d) = .ok (.str w) (SR0 ((w, p) :: l) d) := by
  simp [fn_Reader_next_word, runFn_eq, B_Reader_next_word, att, getFD, tkD]
theorem pw_ok (w : Tx) (p : Int) (l : List Tk) (d : Int) : fn_Reader_pass_word [.ob 0] (SR0 ((w, p) :: l) d) = .ok (.str w) (SR0 l d) := by
  simp [fn_Reader_pass_word, runFn_eq, B_Reader_pass_word, att, getFD, putFD, tkD]
theorem m_nw (w : Tx) (p : Int) (l : List Tk) (d : Int) (rs : Rho) : methE 6 1 fn_Reader_next_word (varE 0) nilA (some (.ob 0) :: rs) (SR0 ((w, p) :: l) d) = .ok (.str w) (SR0 ((w, p) :: l) d) := by
  simp [-List.map_cons, nw_ok]
theorem m_pw (w : Tx) (p : Int) (l : List Tk) (d : Int) (rs : Rho) : methE 6 1 fn_Reader_pass_word (varE 0) nilA (some (.ob 0) :: rs) (SR0 ((w, p) :: l) d) = .ok (.str w) (SR0 l d) := by
  simp [-List.map_cons, pw_ok]
theorem get_deep (l : List Tk) (d : Int) (rs : Rho) : fldE att 21 (varE 0) (some (.ob 0) :: rs) (SR0 l d) = .ok (.int d) (SR0 l d) := by
  simp [att, getFD]
theorem set_deep (l : List Tk) (d k : Int) (rs : Rho) {f : DE0} (h : f (some (.ob 0) :: rs) (SR0 l d) = .ok (.int k) (SR0 l d)) : fldS att 21 (varE 0) f (some (.ob 0) :: rs) (SR0 l d) = .nx (some (.ob 0) :: rs) (SR0 l k) := by
  simp [h, att, putFD]
/-- one digit or two -/
theorem figs (x : Tx) (h : ∀ c ∈ x, 48 ≤ c ∧ c ≤ 57) (hl : x.length ≤ 10) (r : Rho) (hr : r.length = 5) (O : Sto) : lcL (nameG 4) (cmpT (inB false) (varE 4) (constE (.str [48, 49, 50, 51, 52, 53, 54, 55, 56, 57]))) (varE 4) [] r (x.map fun c => D.str [c]) [] O = .ok (x.map fun c => D.str [c]) O := by
  have hs : sizeLine = 16777216 := sizeLine_nat
  have := lcL_filter (t := nameG 4) (c := cmpT (inB false) (varE 4) (constE (.str [48, 49, 50, 51, 52, 53, 54, 55, 56, 57]))) (el := varE 4) (st := []) (r := r) (O := O) (fun c : Nat => D.str [c]) (fun c : Nat => D.str [c]) (fun _ => true) rfl x [] (fun c hc => by
    obtain ⟨h1, h2⟩ := h c hc
    have hq : hasSub [c] [48, 49, 50, 51, 52, 53, 54, 55, 56, 57] = true := by
      rw [sub_one]
      have : c = 48 ∨ c = 49 ∨ c = 50 ∨ c = 51 ∨ c = 52 ∨ c = 53 ∨ c = 54 ∨ c = 55 ∨ c = 56 ∨ c = 57 := by omega
      rcases this with rfl | rfl | rfl | rfl | rfl | rfl | rfl | rfl | rfl | rfl <;> decide
    have hg : (r.set 4 (some (.str [c])))[4]? = some (some (.str [c])) := List.getElem?_set_self (by omega)
    refine ⟨r.set 4 (some (.str [c])), rfl, ?_, ?_⟩
    · simp [ev_var', hg, hq]
    · simp [ev_var', hg]) (by rw [hs]; simp; omega)
  rw [List.filter_eq_self.mpr (by simp)] at this
  exact this
theorem run_ret {n : Nat} {B : DS0} {ds : List D} {O O' : Sto} {d : D} (h : B (ds.map some ++ List.replicate (n - ds.length) none) O = .ret d O') : runFn n B ds O = .ok d O' := by
  rw [runFn_eq, h]
theorem asked_lvl {n : Nat} (hn : n < 100) (p : Int) (l : List Tk) (d : Int) : fn_Reader_asked [.ob 0, .str [108, 101, 118, 101, 108]] (SR0 ((TL.numL n, p) :: l) d) = .ok (.int n) (SR0 l d) := by
  have hs : sizeLine = 16777216 := sizeLine_nat
  have hd := fun c hc => digit_lt (n := n) c hc
  have hl := numL_len (n := n) (k := 2) (by omega) (by omega)
  have h0 := numL_ne n
  have hh := numL_head n
  have hi := int_digits (a := TL.numL n) hd h0 (by omega) (SR0 l d)
  rw [dv_num] at hi
  have h1 : TL.numL 0 = [48] := TL.numL_lt (by omega)
  have hf := fun r hr => figs (TL.numL n) hd (by omega) r hr (SR0 ((TL.numL n, p) :: l) d)
  have hz : ∀ c r, TL.numL n = c :: r → c = 48 → r = [] := by
    intro c r e ec
    subst ec
    have := hh (by rw [e]; rfl)
    subst this
    rw [h1] at e; injection e with _ e; exact e.symm
  generalize TL.numL n = X at *
  obtain ⟨c, r, rfl⟩ : ∃ c r, X = c :: r := by cases X with | nil => exact absurd rfl h0 | cons c r => exact ⟨c, r, rfl⟩
  have hz' := hz c r rfl
  have ix : ∀ O, ixD (.str (c :: r)) (.int 0) O = .ok (.str [c]) O := fun O => ix_at [] r c O (by simp at hl ⊢; omega)
  have hrl : r.length ≤ 1 := by simp at hl; omega
  have mn := m_nw (c :: r) p l d
  have mp := m_pw (c :: r) p l d
  have hB : B_Reader_asked [some (.ob 0), some (.str [108, 101, 118, 101, 108]), none, none, none] (SR0 ((c :: r, p) :: l) d) = .ret (.int n) (SR0 l d) := by
    unfold B_Reader_asked
    have hf1 := hf [some (.ob 0), some (.str [108, 101, 118, 101, 108]), some (.str (c :: r)), none, none] rfl
    generalize hS : SR0 ((c :: r, p) :: l) d = S at *
    refine cs_nx (r1 := [some (.ob 0), some (.str [108, 101, 118, 101, 108]), some (.str (c :: r)), none, none]) (O1 := S) (by rw [ev_setS, mn]; rfl) ?_
    refine cs_ret (if_t (O1 := S) (by simp) ?_)
    refine cs_nx (r1 := [some (.ob 0), some (.str [108, 101, 118, 101, 108]), some (.str (c :: r)), some (.lst ((c :: r).map fun c => D.str [c])), none]) (O1 := S) (by
      rw [ev_setS, ev_lcE, ev_seqI]
      simp only [ev_var', List.getElem?_cons_zero, List.getElem?_cons_succ, bind_ok', src_str, wipeR, List.set]
      rw [hf1]; rfl) ?_
    refine cs_nx (r1 := [some (.ob 0), some (.str [108, 101, 118, 101, 108]), some (.str (c :: r)), some (.lst ((c :: r).map fun c => D.str [c])), none]) (O1 := S) (if_f (O1 := S) ?_ (by simp)) ?_
    · simp [hs, show r.length + 1 ≤ 16777216 by omega, show (r.length : Int) + 1 ≤ 2 by omega, show (1 : Int) ≤ (r.length : Int) + 1 by omega, ix]
      by_cases q : c = 48
      · simp [q, hz' q]
      · simp [q]
    · rw [ev_retS, ev_callE, ev_consA, mp]
      simp [hi]
  exact run_ret hB
theorem asked_has (x : Tx) (hl : x.length ≤ 1000) (p : Int) (l : List Tk) (d : Int) : fn_Reader_asked [.ob 0, .str [104, 97, 115]] (SR0 ((39 :: (x ++ [39]), p) :: l) d) = .ok (.str x) (SR0 l d) := by
  have hs : sizeLine = 16777216 := sizeLine_nat
  have mn := m_nw (39 :: (x ++ [39])) p l d
  have mp := m_pw (39 :: (x ++ [39])) p l d
  have hc : cutD (39 :: (x ++ [39])) (some 1) (some (-1)) = x := by
    simp [cutD, HT.sIx]
    rw [show ((-1 + ((x.length : Int) + 1 + 1)).toNat - 1) = x.length from by omega]
    simp
  have hB : B_Reader_asked [some (.ob 0), some (.str [104, 97, 115]), none, none, none] (SR0 ((39 :: (x ++ [39]), p) :: l) d) = .ret (.str x) (SR0 l d) := by
    have hX : (39 :: (x ++ [39])).length ≤ 16777216 := by simp; omega
    have ht : (39 :: (x ++ [39])).take 1 = [39] := rfl
    unfold B_Reader_asked
    generalize hS : SR0 ((39 :: (x ++ [39]), p) :: l) d = S at *
    generalize 39 :: (x ++ [39]) = X at *
    refine cs_nx (r1 := [some (.ob 0), some (.str [104, 97, 115]), some (.str X), none, none]) (O1 := S) (by rw [ev_setS, mn]; rfl) ?_
    refine cs_nx (r1 := [some (.ob 0), some (.str [104, 97, 115]), some (.str X), none, none]) (O1 := S) (by simp) ?_
    refine cs_ret (if_t (O1 := S) (by simp) ?_)
    refine cs_nx (r1 := [some (.ob 0), some (.str [104, 97, 115]), some (.str X), none, none]) (O1 := S) (by simp [hs, hX, ht]) ?_
    rw [ev_retS, ev_slE, mp]
    simp [hs, hX, hc]
  exact run_ret hB
theorem asked_und {x : Tx} (hx : Nm x) (p : Int) (l : List Tk) (d : Int) : fn_Reader_asked [.ob 0, .str [117, 110, 100, 101, 114]] (SR0 ((if x = [] then [42] else x, p) :: l) d) = .ok (.str x) (SR0 l d) := by
  have hs : sizeLine = 16777216 := sizeLine_nat
  by_cases q : x = []
  · subst q
    rw [if_pos rfl]
    have mn := m_nw [42] p l d
    have mp := m_pw [42] p l d
    have hB : B_Reader_asked [some (.ob 0), some (.str [117, 110, 100, 101, 114]), none, none, none] (SR0 (([42], p) :: l) d) = .ret (.str []) (SR0 l d) := by
      unfold B_Reader_asked
      generalize hS : SR0 (([42], p) :: l) d = S at *
      refine cs_nx (r1 := [some (.ob 0), some (.str [117, 110, 100, 101, 114]), some (.str [42]), none, none]) (O1 := S) (by rw [ev_setS, mn]; rfl) ?_
      refine cs_nx (r1 := [some (.ob 0), some (.str [117, 110, 100, 101, 114]), some (.str [42]), none, none]) (O1 := S) (by simp) ?_
      refine cs_nx (r1 := [some (.ob 0), some (.str [117, 110, 100, 101, 114]), some (.str [42]), none, none]) (O1 := S) (by simp) ?_
      refine cs_ret (if_t (O1 := S) (by simp) (cs_nx (r1 := [some (.ob 0), some (.str [117, 110, 100, 101, 114]), some (.str [42]), none, none]) (O1 := SR0 l d) (by rw [ev_exprS, mp]; rfl) (by simp)))
    exact run_ret hB
  · rw [if_neg q]
    have mn := m_nw x p l d
    have mp := m_pw x p l d
    have hne : x ≠ [42] := by
      rintro rfl
      rcases hx.chars 42 (by simp) with z | z
      · exact absurd z (by decide)
      · cases z
    have ei := hx.is
    have hB : B_Reader_asked [some (.ob 0), some (.str [117, 110, 100, 101, 114]), none, none, none] (SR0 ((x, p) :: l) d) = .ret (.str x) (SR0 l d) := by
      unfold B_Reader_asked
      generalize hS : SR0 ((x, p) :: l) d = S at *
      refine cs_nx (r1 := [some (.ob 0), some (.str [117, 110, 100, 101, 114]), some (.str x), none, none]) (O1 := S) (by rw [ev_setS, mn]; rfl) ?_
      refine cs_nx (r1 := [some (.ob 0), some (.str [117, 110, 100, 101, 114]), some (.str x), none, none]) (O1 := S) (by simp) ?_
      refine cs_nx (r1 := [some (.ob 0), some (.str [117, 110, 100, 101, 114]), some (.str x), none, none]) (O1 := S) (by simp) ?_
      refine cs_nx (r1 := [some (.ob 0), some (.str [117, 110, 100, 101, 114]), some (.str x), none, none]) (O1 := S) (by simp [hne]) ?_
      refine cs_nx (r1 := [some (.ob 0), some (.str [117, 110, 100, 101, 114]), some (.str x), none, none]) (O1 := S) (by simp [q, ei]) ?_
      rw [ev_retS, mp]; rfl
    exact run_ret hB
end Dn
set_option linter.all false
set_option maxRecDepth 100000
set_option maxHeartbeats 4000000
namespace Dn
open PySem Lib LibC
def dpW (n s d : Nat) : Nat := if s < n then d + 1 else d
def dp : Gate → Nat
  | .neg g => 1 + dpW 2 (strg g) (dp g)
  | .con g h => max (dpW 1 (strg g) (dp g)) (dpW 2 (strg h) (dp h))
  | .dis g h => max (dpW 0 (strg g) (dp g)) (dpW 1 (strg h) (dp h))
  | _ => 0
theorem dpW_le (n s d : Nat) : d ≤ dpW n s d ∧ dpW n s d ≤ d + 1 := by unfold dpW; split <;> omega
theorem dp_sz : ∀ g : Gate, dpW 2 (strg g) (dp g) + 1 ≤ gsz g
  | .yes => by simp [dpW, dp, gsz, strg] | .no => by simp [dpW, dp, gsz, strg] | .lvl _ => by simp [dpW, dp, gsz, strg] | .und _ => by simp [dpW, dp, gsz, strg] | .has _ => by simp [dpW, dp, gsz, strg]
  | .neg g => by
    have := dp_sz g
    have e : dpW 2 (strg (.neg g)) (dp (.neg g)) = 1 + dpW 2 (strg g) (dp g) := rfl
    rw [e]; simp only [gsz]; omega
  | .con g h => by
    have h1 := dp_sz g
    have h2 := dp_sz h
    have h3 := gsz_pos g
    have h4 := gsz_pos h
    have e1 : dpW 1 (strg g) (dp g) ≤ dpW 2 (strg g) (dp g) := by unfold dpW; split <;> split <;> omega
    have e : dpW 2 (strg (.con g h)) (dp (.con g h)) = dp (.con g h) + 1 := rfl
    rw [e]; simp only [gsz, dp]; omega
  | .dis g h => by
    have h1 := dp_sz g
    have h2 := dp_sz h
    have h3 := gsz_pos g
    have h4 := gsz_pos h
    have e1 : dpW 0 (strg g) (dp g) ≤ dpW 2 (strg g) (dp g) := by unfold dpW; split <;> split <;> omega
    have e2 : dpW 1 (strg h) (dp h) ≤ dpW 2 (strg h) (dp h) := by unfold dpW; split <;> split <;> omega
    have e : dpW 2 (strg (.dis g h)) (dp (.dis g h)) = dp (.dis g h) + 1 := rfl
    rw [e]; simp only [gsz, dp]; omega
abbrev acond : Rho → Sto → Res Bool := cmpT eqD (methE 6 1 fn_Reader_next_word (varE 0) nilA) (constE (.str [97, 110, 100]))
abbrev abody (f : Fn) : DS0 := (consS (exprS (methE 6 1 fn_Reader_pass_word (varE 0) nilA)) (setS 1 (tupE (consA (constE (.str [97, 110, 100])) (consA (varE 1) (consA (methE 6 1 f (varE 0) nilA) nilA))))))
abbrev ocond : Rho → Sto → Res Bool := cmpT eqD (methE 6 1 fn_Reader_next_word (varE 0) nilA) (constE (.str [111, 114]))
abbrev obody (f : Fn) : DS0 := (consS (exprS (methE 6 1 fn_Reader_pass_word (varE 0) nilA)) (setS 1 (tupE (consA (constE (.str [111, 114])) (consA (varE 1) (consA (methE 6 1 f (varE 0) nilA) nilA))))))
/-- words that are read as one thing, by a def -/
def Gives (f : Fn) (ws : List Tx) (v : D) (d : Int) (ok : Tx → Prop) : Prop := ∀ (l : List Tk) (w : Tx) (p : Int) (rest : List Tk), l.map Prod.fst = ws → ok w → f [.ob 0] (SR0 (l ++ (w, p) :: rest) d) = .ok v (SR0 ((w, p) :: rest) d)
def OneG (g : Gate) : Prop := ∀ (n : Nat) (d : Int), 3 * dpW 2 (strg g) (dp g) + 1 ≤ n → 0 ≤ d → d + dpW 2 (strg g) (dp g) ≤ 30 → Gives (fn_Reader_one n) (gwW 2 g) (gateD g) d (fun _ => True)
def AllG (g : Gate) : Prop := ∀ (n : Nat) (d : Int) (k : Nat), 3 * dpW 1 (strg g) (dp g) + 1 ≤ n → 0 ≤ d → d + dpW 1 (strg g) (dp g) ≤ 30 → gsz g ≤ k → ∀ (l : List Tk) (w : Tx) (p : Int) (rest : List Tk) (x1 : Option D), l.map Prod.fst = gwW 1 g →
  ∃ k', k ≤ k' + gsz g ∧ ((setS 1 (methE 6 1 (fn_Reader_one n) (varE 0) nilA)) [some (.ob 0), x1] (SR0 (l ++ (w, p) :: rest) d)).bind (fun r O => whileL acond (abody (fn_Reader_one n)) k r O) = whileL acond (abody (fn_Reader_one n)) k' [some (.ob 0), some (gateD g)] (SR0 ((w, p) :: rest) d)
def AnyG (g : Gate) : Prop := ∀ (n : Nat) (d : Int) (k : Nat), 3 * dp g + 2 ≤ n → 0 ≤ d → d + dp g ≤ 30 → gsz g ≤ k → gsz g ≤ 90000 → ∀ (l : List Tk) (w : Tx) (p : Int) (rest : List Tk) (x1 : Option D), l.map Prod.fst = gw g → w ≠ [97, 110, 100] →
  ∃ k', k ≤ k' + gsz g ∧ ((setS 1 (methE 6 1 (fn_Reader_all_of n) (varE 0) nilA)) [some (.ob 0), x1] (SR0 (l ++ (w, p) :: rest) d)).bind (fun r O => whileL ocond (obody (fn_Reader_all_of n)) k r O) = whileL ocond (obody (fn_Reader_all_of n)) k' [some (.ob 0), some (gateD g)] (SR0 ((w, p) :: rest) d)
theorem m_gives {f : Fn} {ws : List Tx} {v : D} {d : Int} {ok : Tx → Prop} (h : Gives f ws v d ok) (l : List Tk) (w : Tx) (p : Int) (rest : List Tk) (hl : l.map Prod.fst = ws) (hw : ok w) (rs : Rho) :
    methE 6 1 f (varE 0) nilA (some (.ob 0) :: rs) (SR0 (l ++ (w, p) :: rest) d) = .ok v (SR0 ((w, p) :: rest) d) := by
  have e := h l w p rest hl hw
  generalize hS : SR0 (l ++ (w, p) :: rest) d = S at e ⊢
  have h0 : S[0]? = some (.ins 6 [(20, .lst ((l ++ (w, p) :: rest).map tkD)), (21, .int d)]) := by rw [← hS]; rfl
  rw [ev_methE]
  simp only [ev_var', List.getElem?_cons_zero, bind_ok', h0, if_true, ev_nilA, List.length_nil, Nat.zero_add]
  exact e
theorem all_of_one {g : Gate} (h : OneG g) (he : gwW 1 g = gwW 2 g) (hd : dpW 1 (strg g) (dp g) = dpW 2 (strg g) (dp g)) : AllG g := by
  intro n d k hn h0 hd2 hk l w p rest x1 hl
  rw [hd] at hn hd2
  rw [he] at hl
  have e := m_gives (h n d hn h0 hd2) l w p rest hl trivial [x1]
  exact ⟨k, by omega, by rw [ev_setS, e]; rfl⟩
theorem acond_at (w : Tx) (p : Int) (rest : List Tk) (d : Int) (rs : Rho) : acond (some (.ob 0) :: rs) (SR0 ((w, p) :: rest) d) = .ok (w == [97, 110, 100]) (SR0 ((w, p) :: rest) d) := by
  have mn := m_nw w p rest d rs
  show Res.bind _ asB = _
  generalize SR0 ((w, p) :: rest) d = S at mn ⊢
  rw [ev_op2, mn]; simp
theorem ocond_at (w : Tx) (p : Int) (rest : List Tk) (d : Int) (rs : Rho) : ocond (some (.ob 0) :: rs) (SR0 ((w, p) :: rest) d) = .ok (w == [111, 114]) (SR0 ((w, p) :: rest) d) := by
  have mn := m_nw w p rest d rs
  show Res.bind _ asB = _
  generalize SR0 ((w, p) :: rest) d = S at mn ⊢
  rw [ev_op2, mn]; simp
theorem split_map {l : List Tk} {a b : List Tx} (h : l.map Prod.fst = a ++ b) : ∃ l1 l2, l = l1 ++ l2 ∧ l1.map Prod.fst = a ∧ l2.map Prod.fst = b :=
  List.map_eq_append_iff.mp h
theorem split_cons {l : List Tk} {a : Tx} {b : List Tx} (h : l.map Prod.fst = a :: b) : ∃ p l2, l = (a, p) :: l2 ∧ l2.map Prod.fst = b := by
  cases l with
  | nil => cases h
  | cons q l => simp at h; exact ⟨q.2, l, by rw [← h.1], h.2⟩
theorem all_con {a b : Gate} (ha : AllG a) (hb : OneG b) : AllG (.con a b) := by
  intro n d k hn h0 hd hk l w p rest x1 hl
  have hs : sizeLine = 16777216 := sizeLine_nat
  have e0 : dpW 1 (strg (.con a b)) (dp (.con a b)) = max (dpW 1 (strg a) (dp a)) (dpW 2 (strg b) (dp b)) := rfl
  have e1 : gwW 1 (.con a b) = gwW 1 a ++ [97, 110, 100] :: gwW 2 b := rfl
  rw [e0] at hn hd
  rw [e1] at hl
  simp only [gsz] at hk ⊢
  have hpb := gsz_pos b
  obtain ⟨l1, l2, rfl, f1, f2⟩ := split_map hl
  obtain ⟨q, l3, rfl, f3⟩ := split_cons f2
  obtain ⟨k1, a1, a2⟩ := ha n d k (by omega) h0 (by omega) (by omega) l1 [97, 110, 100] q (l3 ++ (w, p) :: rest) x1 f1
  rw [show l1 ++ ([97, 110, 100], q) :: l3 ++ (w, p) :: rest = l1 ++ ([97, 110, 100], q) :: (l3 ++ (w, p) :: rest) from by simp]
  obtain ⟨k2, rfl⟩ : ∃ k2, k1 = k2 + 1 := ⟨k1 - 1, by omega⟩
  refine ⟨k2, by omega, ?_⟩
  rw [a2]
  refine while_t (O1 := SR0 (([97, 110, 100], q) :: (l3 ++ (w, p) :: rest)) d) (r2 := [some (.ob 0), some (gateD (.con a b))]) (O2 := SR0 ((w, p) :: rest) d) (acond_at _ _ _ _ _) ?_ rfl
  have mp := m_pw [97, 110, 100] q (l3 ++ (w, p) :: rest) d [some (gateD a)]
  have mb := m_gives (hb n d (by omega) h0 (by omega)) l3 w p rest f3 trivial [some (gateD a)]
  refine cs_nx (r1 := [some (.ob 0), some (gateD a)]) (O1 := SR0 (l3 ++ (w, p) :: rest) d) (by rw [ev_exprS, mp]; rfl) ?_
  rw [ev_setS, ev_tupE, ev_consA, ev_const, bind_ok', ev_consA, ev_var', List.getElem?_cons_succ, List.getElem?_cons_zero]
  simp only [bind_ok']
  rw [ev_consA, mb]
  simp [hs, gateD]
theorem all_of_run {g : Gate} (h : AllG g) (n : Nat) (d : Int) (hn : 3 * dpW 1 (strg g) (dp g) + 1 ≤ n) (h0 : 0 ≤ d) (hd : d + dpW 1 (strg g) (dp g) ≤ 30) (hz : gsz g ≤ 90000) : Gives (fn_Reader_all_of (n + 1)) (gwW 1 g) (gateD g) d (fun w => w ≠ [97, 110, 100]) := by
  intro l w p rest hl hw
  obtain ⟨k, a1, a2⟩ := h n d 100000 hn h0 hd (by omega) l w p rest none hl
  obtain ⟨k2, rfl⟩ : ∃ k2, k = k2 + 1 := ⟨k - 1, by omega⟩
  have we : whileL acond (abody (fn_Reader_one n)) (k2 + 1) [some (.ob 0), some (gateD g)] (SR0 ((w, p) :: rest) d) = .nx [some (.ob 0), some (gateD g)] (SR0 ((w, p) :: rest) d) :=
    while_f (by rw [acond_at]; simp [hw])
  rw [we] at a2
  have hB : B_Reader_all_of (fn_Reader_any_of n) (fn_Reader_all_of n) (fn_Reader_one n) [some (.ob 0), none] (SR0 (l ++ (w, p) :: rest) d) = .ret (gateD g) (SR0 ((w, p) :: rest) d) := by
    unfold B_Reader_all_of
    generalize SR0 (l ++ (w, p) :: rest) d = S at a2 ⊢
    rw [ev_consS]
    cases q : setS 1 (methE 6 1 (fn_Reader_one n) (varE 0) nilA) [some (.ob 0), none] S with
    | nx r O =>
      rw [q, bind_nx'] at a2
      rw [bind_nx', ev_consS, ev_whileS, a2]; simp
    | _ => rw [q] at a2; cases a2
  exact run_ret (B := B_Reader_all_of (fn_Reader_any_of n) (fn_Reader_all_of n) (fn_Reader_one n)) hB
theorem any_of_all {g : Gate} (h : AllG g) (he : gw g = gwW 1 g) (hd : dpW 1 (strg g) (dp g) = dp g) : AnyG g := by
  intro n d k hn h0 hd2 hk hz l w p rest x1 hl hw
  obtain ⟨m, rfl⟩ : ∃ m, n = m + 1 := ⟨n - 1, by omega⟩
  rw [he] at hl
  have e := m_gives (all_of_run h m d (by omega) h0 (by omega) hz) l w p rest hl hw [x1]
  exact ⟨k, by omega, by rw [ev_setS, e]; rfl⟩
theorem any_dis {a b : Gate} (ha : AnyG a) (hb : AllG b) : AnyG (.dis a b) := by
  intro n d k hn h0 hd hk hz l w p rest x1 hl hw
  have hs : sizeLine = 16777216 := sizeLine_nat
  have e0 : dp (.dis a b) = max (dp a) (dpW 1 (strg b) (dp b)) := rfl
  have e1 : gw (.dis a b) = gw a ++ [111, 114] :: gwW 1 b := rfl
  rw [e0] at hn hd
  rw [e1] at hl
  simp only [gsz] at hk hz ⊢
  have hpb := gsz_pos b
  obtain ⟨m, rfl⟩ : ∃ m, n = m + 1 := ⟨n - 1, by omega⟩
  obtain ⟨l1, l2, rfl, f1, f2⟩ := split_map hl
  obtain ⟨q, l3, rfl, f3⟩ := split_cons f2
  obtain ⟨k1, a1, a2⟩ := ha (m + 1) d k (by omega) h0 (by omega) (by omega) (by omega) l1 [111, 114] q (l3 ++ (w, p) :: rest) x1 f1 (by simp)
  rw [show l1 ++ ([111, 114], q) :: l3 ++ (w, p) :: rest = l1 ++ ([111, 114], q) :: (l3 ++ (w, p) :: rest) from by simp]
  obtain ⟨k2, rfl⟩ : ∃ k2, k1 = k2 + 1 := ⟨k1 - 1, by omega⟩
  refine ⟨k2, by omega, ?_⟩
  rw [a2]
  refine while_t (O1 := SR0 (([111, 114], q) :: (l3 ++ (w, p) :: rest)) d) (r2 := [some (.ob 0), some (gateD (.dis a b))]) (O2 := SR0 ((w, p) :: rest) d) (ocond_at _ _ _ _ _) ?_ rfl
  have mp := m_pw [111, 114] q (l3 ++ (w, p) :: rest) d [some (gateD a)]
  have mb := m_gives (all_of_run hb m d (by omega) h0 (by omega) (by omega)) l3 w p rest f3 hw [some (gateD a)]
  refine cs_nx (r1 := [some (.ob 0), some (gateD a)]) (O1 := SR0 (l3 ++ (w, p) :: rest) d) (by rw [ev_exprS, mp]; rfl) ?_
  rw [ev_setS, ev_tupE, ev_consA, ev_const, bind_ok', ev_consA, ev_var', List.getElem?_cons_succ, List.getElem?_cons_zero]
  simp only [bind_ok']
  rw [ev_consA, mb]
  simp [hs, gateD]
theorem any_of_run {g : Gate} (h : AnyG g) (n : Nat) (d : Int) (hn : 3 * dp g + 2 ≤ n) (h0 : 0 ≤ d) (hd : d + dp g ≤ 30) (hz : gsz g ≤ 90000) : Gives (fn_Reader_any_of (n + 1)) (gw g) (gateD g) d (fun w => w ≠ [97, 110, 100] ∧ w ≠ [111, 114]) := by
  intro l w p rest hl hw
  obtain ⟨k, a1, a2⟩ := h n d 100000 hn h0 hd (by omega) hz l w p rest none hl hw.1
  obtain ⟨k2, rfl⟩ : ∃ k2, k = k2 + 1 := ⟨k - 1, by omega⟩
  have we : whileL ocond (obody (fn_Reader_all_of n)) (k2 + 1) [some (.ob 0), some (gateD g)] (SR0 ((w, p) :: rest) d) = .nx [some (.ob 0), some (gateD g)] (SR0 ((w, p) :: rest) d) :=
    while_f (by rw [ocond_at]; simp [hw.2])
  rw [we] at a2
  have hB : B_Reader_any_of (fn_Reader_any_of n) (fn_Reader_all_of n) (fn_Reader_one n) [some (.ob 0), none] (SR0 (l ++ (w, p) :: rest) d) = .ret (gateD g) (SR0 ((w, p) :: rest) d) := by
    unfold B_Reader_any_of
    generalize SR0 (l ++ (w, p) :: rest) d = S at a2 ⊢
    rw [ev_consS]
    cases q : setS 1 (methE 6 1 (fn_Reader_all_of n) (varE 0) nilA) [some (.ob 0), none] S with
    | nx r O =>
      rw [q, bind_nx'] at a2
      rw [bind_nx', ev_consS, ev_whileS, a2]; simp
    | _ => rw [q] at a2; cases a2
  exact run_ret (B := B_Reader_any_of (fn_Reader_any_of n) (fn_Reader_all_of n) (fn_Reader_one n)) hB
theorem not_wd (w : Tx) (O : Sto) : inB true (.str w) (.tup [.str [110, 111, 116], .str [40]]) O = .ok (.bl (!([110, 111, 116] == w || [40] == w))) O := by
  have h : [D.str [110, 111, 116], .str [40]].all flatD = true := rfl
  simp only [inB, dicOf, seqR, h, flatD, Bool.and_true, if_true]
  simp [eqv_str]
theorem in_asks (w : Tx) (O : Sto) : inB false (.str w) (.tup [.str [108, 101, 118, 101, 108], .str [117, 110, 100, 101, 114], .str [104, 97, 115]]) O = .ok (.bl ([108, 101, 118, 101, 108] == w || ([117, 110, 100, 101, 114] == w || [104, 97, 115] == w))) O := by
  have := in_strs w [[108, 101, 118, 101, 108], [117, 110, 100, 101, 114], [104, 97, 115]] O
  simpa using this
abbrev BO (n : Nat) : DS0 := B_Reader_one (fn_Reader_any_of n) (fn_Reader_all_of n) (fn_Reader_one n)
theorem one_word (c : Tx) (hc : c = [121, 101, 115] ∨ c = [110, 111]) (n : Nat) (d : Int) (p : Int) (l : List Tk) : fn_Reader_one (n + 1) [.ob 0] (SR0 ((c, p) :: l) d) = .ok (.tup [.str c]) (SR0 l d) := by
  have hs : sizeLine = 16777216 := sizeLine_nat
  have mn := m_nw c p l d
  have mp := m_pw c p l d
  have hi : ([121, 101, 115] == c || [110, 111] == c) = true := by rcases hc with rfl | rfl <;> decide
  have hB : BO n [some (.ob 0), none, none] (SR0 ((c, p) :: l) d) = .ret (.tup [.str c]) (SR0 l d) := by
    unfold BO B_Reader_one
    generalize SR0 ((c, p) :: l) d = S at *
    refine cs_nx (r1 := [some (.ob 0), some (.str c), none]) (O1 := S) (by rw [ev_setS, mn]; rfl) ?_
    refine cs_ret (if_t (O1 := S) (by simp [hs, in_yesno, hi]) ?_)
    rw [ev_retS, ev_tupE, ev_consA, mp]; simp [hs]
  exact run_ret (B := BO n) hB
theorem one_ask (w : Tx) (hw : w = [108, 101, 118, 101, 108] ∨ w = [117, 110, 100, 101, 114] ∨ w = [104, 97, 115]) (n : Nat) (d p : Int) (l l' : List Tk) (v : D) (h : fn_Reader_asked [.ob 0, .str w] (SR0 l d) = .ok v (SR0 l' d)) :
    fn_Reader_one (n + 1) [.ob 0] (SR0 ((w, p) :: l) d) = .ok (.tup [.str w, v]) (SR0 l' d) := by
  have hs : sizeLine = 16777216 := sizeLine_nat
  have mn := m_nw w p l d
  have mp := m_pw w p l d
  have hi : ([121, 101, 115] == w || [110, 111] == w) = false := by rcases hw with rfl | rfl | rfl <;> decide
  have hj : ([108, 101, 118, 101, 108] == w || ([117, 110, 100, 101, 114] == w || [104, 97, 115] == w)) = true := by rcases hw with rfl | rfl | rfl <;> decide
  have hB : BO n [some (.ob 0), none, none] (SR0 ((w, p) :: l) d) = .ret (.tup [.str w, v]) (SR0 l' d) := by
    unfold BO B_Reader_one
    generalize SR0 ((w, p) :: l) d = S at *
    refine cs_nx (r1 := [some (.ob 0), some (.str w), none]) (O1 := S) (by rw [ev_setS, mn]; rfl) ?_
    refine cs_nx (r1 := [some (.ob 0), some (.str w), none]) (O1 := S) (by simp [hs, in_yesno, hi]) ?_
    refine cs_ret (if_t (O1 := S) (by simp [hs, in_asks, hj]) ?_)
    refine cs_nx (r1 := [some (.ob 0), some (.str w), none]) (O1 := SR0 l d) (by rw [ev_exprS, mp]; rfl) ?_
    have hm : methE 6 2 fn_Reader_asked (varE 0) (consA (varE 1) nilA) [some (.ob 0), some (.str w), none] (SR0 l d) = .ok v (SR0 l' d) := by
      generalize hS : SR0 l d = S1 at h ⊢
      have h0 : S1[0]? = some (.ins 6 [(20, .lst (l.map tkD)), (21, .int d)]) := by rw [← hS]; rfl
      rw [ev_methE]
      simp only [ev_var', List.getElem?_cons_zero, List.getElem?_cons_succ, bind_ok', h0, if_true, ev_consA, ev_nilA, List.length_cons, List.length_nil, Nat.zero_add]
      exact h
    rw [ev_retS, ev_tupE, ev_consA, ev_var', List.getElem?_cons_succ, List.getElem?_cons_zero]
    simp only [bind_ok']
    rw [ev_consA, hm]; simp [hs]
  exact run_ret (B := BO n) hB
theorem deep_in (n : Nat) (w : Tx) (hw : w = [110, 111, 116] ∨ w = [40]) (d p : Int) (h0 : 0 ≤ d) (hd : d + 1 ≤ 30) (l : List Tk) (x : SR)
    (h : (consS (ifS (cmpT eqD (varE 1) (constE (.str [110, 111, 116])))
    (setS 2 (tupE (consA (constE (.str [110, 111, 116])) (consA (methE 6 1 (fn_Reader_one n) (varE 0) nilA) nilA))))
    (consS (setS 2 (methE 6 1 (fn_Reader_any_of n) (varE 0) nilA))
    (consS (ifS (cmpT neD (methE 6 1 fn_Reader_next_word (varE 0) nilA) (constE (.str [41])))
    (exprS (methE 6 1 fn_Reader_fail (varE 0) nilA))
    nilS)
    (exprS (methE 6 1 fn_Reader_pass_word (varE 0) nilA)))))
    (consS (fldS att 21 (varE 0) (op2 subD (fldE att 21 (varE 0)) (constE (.int 1))))
    (retS (varE 2)))) [some (.ob 0), some (.str w), none] (SR0 l (d + 1)) = x) : BO n [some (.ob 0), none, none] (SR0 ((w, p) :: l) d) = x := by
  have hs : sizeLine = 16777216 := sizeLine_nat
  have mn := m_nw w p l d
  have mp := m_pw w p l (d + 1)
  have gd := fun rs => get_deep ((w, p) :: l) d rs
  have gd1 := fun rs => get_deep ((w, p) :: l) (d + 1) rs
  have sd : fldS att 21 (varE 0) (op2 (addD false) (fldE att 21 (varE 0)) (constE (.int 1))) [some (.ob 0), some (.str w), none] (SR0 ((w, p) :: l) d) = .nx [some (.ob 0), some (.str w), none] (SR0 ((w, p) :: l) (d + 1)) := by
    refine set_deep ((w, p) :: l) d (d + 1) _ ?_
    rw [ev_op2, gd]; rfl
  have hi : ([121, 101, 115] == w || [110, 111] == w) = false := by rcases hw with rfl | rfl <;> decide
  have hj : ([108, 101, 118, 101, 108] == w || ([117, 110, 100, 101, 114] == w || [104, 97, 115] == w)) = false := by rcases hw with rfl | rfl <;> decide
  have hk : ([110, 111, 116] == w || [40] == w) = true := by rcases hw with rfl | rfl <;> decide
  have hc : c_DEEP_MOST_gatetext = .int 30 := rfl
  unfold BO B_Reader_one
  generalize SR0 ((w, p) :: l) d = S at *
  generalize SR0 ((w, p) :: l) (d + 1) = S1 at *
  refine cs_nx (r1 := [some (.ob 0), some (.str w), none]) (O1 := S) (by rw [ev_setS, mn]; rfl) ?_
  refine cs_nx (r1 := [some (.ob 0), some (.str w), none]) (O1 := S) (by simp [hs, in_yesno, hi]) ?_
  refine cs_nx (r1 := [some (.ob 0), some (.str w), none]) (O1 := S) (by simp [hs, in_asks, hj]) ?_
  refine cs_nx (r1 := [some (.ob 0), some (.str w), none]) (O1 := S) (by simp [hs, not_wd, hk]) ?_
  refine cs_nx (r1 := [some (.ob 0), some (.str w), none]) (O1 := S1) sd ?_
  refine cs_nx (r1 := [some (.ob 0), some (.str w), none]) (O1 := S1) (if_f (O1 := S1) ?_ rfl) ?_
  · rw [ev_cmpT, gd1]
    simp [hc]; omega
  refine cs_nx (r1 := [some (.ob 0), some (.str w), none]) (O1 := SR0 l (d + 1)) (by rw [ev_exprS, mp]; rfl) ?_
  exact h
theorem deep_out (d : Int) (l : List Tk) (w : Tx) (v : D) : (consS (fldS att 21 (varE 0) (op2 subD (fldE att 21 (varE 0)) (constE (.int 1)))) (retS (varE 2))) [some (.ob 0), some (.str w), some v] (SR0 l (d + 1)) = .ret v (SR0 l d) := by
  have gd := get_deep l (d + 1) [some (.str w), some v]
  refine cs_nx (r1 := [some (.ob 0), some (.str w), some v]) (O1 := SR0 l d) (set_deep l (d + 1) d _ ?_) (by simp)
  rw [ev_op2, gd]; simp
/-- brackets round what is read -/
theorem one_brk {ws : List Tx} {v : D} {n : Nat} {d : Int} (h0 : 0 ≤ d) (hd : d + 1 ≤ 30) (h : Gives (fn_Reader_any_of n) ws v (d + 1) (fun w => w ≠ [97, 110, 100] ∧ w ≠ [111, 114])) : Gives (fn_Reader_one (n + 1)) ([40] :: (ws ++ [[41]])) v d (fun _ => True) := by
  intro l w p rest hl _
  obtain ⟨q, l1, rfl, f1⟩ := split_cons hl
  obtain ⟨l2, l3, rfl, f2, f3⟩ := split_map f1
  obtain ⟨q2, l4, rfl, f4⟩ := split_cons f3
  have : l4 = [] := by cases l4 with | nil => rfl | cons _ _ => cases f4
  subst this
  rw [show ([40], q) :: (l2 ++ [([41], q2)]) ++ (w, p) :: rest = ([40], q) :: (l2 ++ ([41], q2) :: (w, p) :: rest) from by simp]
  refine run_ret (B := BO n) (deep_in n [40] (.inr rfl) d q h0 hd _ _ ?_)
  have mg := m_gives h l2 [41] q2 ((w, p) :: rest) f2 (by simp) [some (.str [40]), none]
  have mn := m_nw [41] q2 ((w, p) :: rest) (d + 1) [some (.str [40]), some v]
  have mp := m_pw [41] q2 ((w, p) :: rest) (d + 1) [some (.str [40]), some v]
  have od := deep_out d ((w, p) :: rest) [40] v
  generalize SR0 (l2 ++ ([41], q2) :: (w, p) :: rest) (d + 1) = S at *
  generalize SR0 (([41], q2) :: (w, p) :: rest) (d + 1) = S1 at *
  refine cs_nx (r1 := [some (.ob 0), some (.str [40]), some v]) (O1 := SR0 ((w, p) :: rest) (d + 1)) ?_ od
  refine if_f (O1 := S) (by simp) ?_
  refine cs_nx (r1 := [some (.ob 0), some (.str [40]), some v]) (O1 := S1) (by rw [ev_setS, mg]; rfl) ?_
  refine cs_nx (r1 := [some (.ob 0), some (.str [40]), some v]) (O1 := S1) (if_f (O1 := S1) ?_ rfl) ?_
  · rw [ev_cmpT, mn]; simp
  · rw [ev_exprS, mp]; rfl
theorem one_not {ws : List Tx} {v : D} {n : Nat} {d : Int} (h0 : 0 ≤ d) (hd : d + 1 ≤ 30) (h : Gives (fn_Reader_one n) ws v (d + 1) (fun _ => True)) : Gives (fn_Reader_one (n + 1)) ([110, 111, 116] :: ws) (.tup [.str [110, 111, 116], v]) d (fun _ => True) := by
  have hs : sizeLine = 16777216 := sizeLine_nat
  intro l w p rest hl _
  obtain ⟨q, l1, rfl, f1⟩ := split_cons hl
  rw [show ([110, 111, 116], q) :: l1 ++ (w, p) :: rest = ([110, 111, 116], q) :: (l1 ++ (w, p) :: rest) from rfl]
  refine run_ret (B := BO n) (deep_in n [110, 111, 116] (.inl rfl) d q h0 hd _ _ ?_)
  have mg := m_gives h l1 w p rest f1 trivial [some (.str [110, 111, 116]), none]
  have od := deep_out d ((w, p) :: rest) [110, 111, 116] (.tup [.str [110, 111, 116], v])
  generalize SR0 (l1 ++ (w, p) :: rest) (d + 1) = S at *
  refine cs_nx (r1 := [some (.ob 0), some (.str [110, 111, 116]), some (.tup [.str [110, 111, 116], v])]) (O1 := SR0 ((w, p) :: rest) (d + 1)) ?_ od
  refine if_t (O1 := S) (by simp) ?_
  rw [ev_setS, ev_tupE, ev_consA, ev_const, bind_ok', ev_consA, mg]
  simp [hs]
theorem one_any {g : Gate} (h : AnyG g) (hs : strg g < 2) (hz : gsz g ≤ 90000) : OneG g := by
  intro n d hn h0 hd
  have e1 : dpW 2 (strg g) (dp g) = dp g + 1 := by unfold dpW; rw [if_pos hs]
  have e2 : gwW 2 g = [40] :: (gw g ++ [[41]]) := by unfold gwW brkW; simp [hs]
  rw [e1] at hn hd
  rw [e2]
  obtain ⟨m, rfl⟩ : ∃ m, n = m + 1 + 1 := ⟨n - 2, by omega⟩
  exact one_brk h0 (by omega) (any_of_run h m (d + 1) (by omega) (by omega) (by omega) hz)
theorem read_all : ∀ g : Gate, gfin g = true → gsz g ≤ 90000 → OneG g ∧ AllG g ∧ AnyG g
  | .yes, _, _ => by
    have h : OneG .yes := fun n d hn _ _ l w p rest hl _ => by
      obtain ⟨m, rfl⟩ : ∃ m, n = m + 1 := ⟨n - 1, by omega⟩
      obtain ⟨q, l1, rfl, f1⟩ := split_cons hl
      have : l1 = [] := by cases l1 with | nil => rfl | cons _ _ => cases f1
      subst this
      exact one_word _ (.inl rfl) m d q _
    exact ⟨h, all_of_one h rfl rfl, any_of_all (all_of_one h rfl rfl) rfl rfl⟩
  | .no, _, _ => by
    have h : OneG .no := fun n d hn _ _ l w p rest hl _ => by
      obtain ⟨m, rfl⟩ : ∃ m, n = m + 1 := ⟨n - 1, by omega⟩
      obtain ⟨q, l1, rfl, f1⟩ := split_cons hl
      have : l1 = [] := by cases l1 with | nil => rfl | cons _ _ => cases f1
      subst this
      exact one_word _ (.inr rfl) m d q _
    exact ⟨h, all_of_one h rfl rfl, any_of_all (all_of_one h rfl rfl) rfl rfl⟩
  | .lvl k, hf, _ => by
    simp only [gfin, Bool.and_eq_true, decide_eq_true_eq] at hf
    obtain ⟨j, rfl⟩ : ∃ j : Nat, k = j := ⟨k.toNat, by omega⟩
    have h : OneG (.lvl j) := fun n d hn _ _ l w p rest hl _ => by
      obtain ⟨m, rfl⟩ : ∃ m, n = m + 1 := ⟨n - 1, by omega⟩
      obtain ⟨q, l1, rfl, f1⟩ := split_cons hl
      obtain ⟨q2, l2, rfl, f2⟩ := split_cons f1
      have : l2 = [] := by cases l2 with | nil => rfl | cons _ _ => cases f2
      subst this
      exact one_ask _ (.inl rfl) m d q _ _ _ (asked_lvl (by omega) q2 _ d)
    exact ⟨h, all_of_one h rfl rfl, any_of_all (all_of_one h rfl rfl) rfl rfl⟩
  | .und x, hf, _ => by
    have h : OneG (.und x) := fun n d hn _ _ l w p rest hl _ => by
      obtain ⟨m, rfl⟩ : ∃ m, n = m + 1 := ⟨n - 1, by omega⟩
      obtain ⟨q, l1, rfl, f1⟩ := split_cons hl
      obtain ⟨q2, l2, rfl, f2⟩ := split_cons f1
      have : l2 = [] := by cases l2 with | nil => rfl | cons _ _ => cases f2
      subst this
      exact one_ask _ (.inr (.inl rfl)) m d q _ _ _ (asked_und (isNm_iff.mp hf) q2 _ d)
    exact ⟨h, all_of_one h rfl rfl, any_of_all (all_of_one h rfl rfl) rfl rfl⟩
  | .has x, hf, _ => by
    simp only [gfin, Bool.and_eq_true, decide_eq_true_eq] at hf
    have hl9 := hf.1
    have h : OneG (.has x) := fun n d hn _ _ l w p rest hl _ => by
      obtain ⟨m, rfl⟩ : ∃ m, n = m + 1 := ⟨n - 1, by omega⟩
      obtain ⟨q, l1, rfl, f1⟩ := split_cons hl
      obtain ⟨q2, l2, rfl, f2⟩ := split_cons f1
      have : l2 = [] := by cases l2 with | nil => rfl | cons _ _ => cases f2
      subst this
      exact one_ask _ (.inr (.inr rfl)) m d q _ _ _ (asked_has x (by omega) q2 _ d)
    exact ⟨h, all_of_one h rfl rfl, any_of_all (all_of_one h rfl rfl) rfl rfl⟩
  | .neg g, hf, hz => by
    simp only [gsz] at hz
    obtain ⟨o, _, _⟩ := read_all g hf (by omega)
    have h : OneG (.neg g) := fun n d hn h0 hd => by
      have e : dpW 2 (strg (.neg g)) (dp (.neg g)) = 1 + dpW 2 (strg g) (dp g) := rfl
      rw [e] at hn hd
      obtain ⟨m, rfl⟩ : ∃ m, n = m + 1 := ⟨n - 1, by omega⟩
      exact one_not h0 (by omega) (o m (d + 1) (by omega) (by omega) (by omega))
    exact ⟨h, all_of_one h rfl rfl, any_of_all (all_of_one h rfl rfl) rfl rfl⟩
  | .con a b, hf, hz => by
    simp only [gfin, Bool.and_eq_true] at hf
    have hz' := hz
    simp only [gsz] at hz
    obtain ⟨_, a1, _⟩ := read_all a hf.1 (by omega)
    obtain ⟨b1, _, _⟩ := read_all b hf.2 (by omega)
    have h := all_con a1 b1
    have h2 : AnyG (.con a b) := any_of_all h rfl rfl
    exact ⟨one_any h2 (by simp [strg]) hz', h, h2⟩
  | .dis a b, hf, hz => by
    simp only [gfin, Bool.and_eq_true] at hf
    have hz' := hz
    simp only [gsz] at hz
    obtain ⟨_, _, a1⟩ := read_all a hf.1 (by omega)
    obtain ⟨_, b1, _⟩ := read_all b hf.2 (by omega)
    have h2 := any_dis a1 b1
    have h1 : OneG (.dis a b) := one_any h2 (by simp [strg]) hz'
    exact ⟨h1, all_of_one h1 rfl rfl, h2⟩
end Dn
set_option linter.all false
set_option maxRecDepth 100000
set_option maxHeartbeats 4000000
namespace Dn
open PySem Lib LibC
theorem read_gate_lex {s : Tx} {ws : List Tx} {b : Bool} {v : D} (hx : LexB s ws b) (hl : s.length ≤ 4000) (hg : Gives (fn_Reader_any_of 100) ws v 0 (fun w => w ≠ [97, 110, 100] ∧ w ≠ [111, 114])) (hv : noOb v = true) (O : Sto) :
    closeFn fn_read_gate [.str s] O = .ok v O := by
  obtain ⟨l, h1, h2, h3⟩ := tokens_ok hx hl [.ins 6 []]
  obtain ⟨l1, l2, rfl, f1, f2⟩ := split_map h1
  obtain ⟨p, l3, rfl, f3⟩ := split_cons f2
  have : l3 = [] := by cases l3 with | nil => rfl | cons _ _ => cases f3
  subst this
  refine close_ok (O' := SR0 [([], p)] 0) rfl ?_ hv
  have hI : fn_Reader_init [.ob 0, .str s] [.ins 6 []] = .ok .non (SR0 (l1 ++ [([], p)]) 0) := by
    simp [fn_Reader_init, runFn_eq, B_Reader_init, h3, att, putFD]
  have mg := m_gives hg l1 [] p [] f1 (by simp) 
  have mn := m_nw [] p [] 0
  have hB : B_read_gate [some (.str s), none, none] [] = .ret v (SR0 [([], p)] 0) := by
    unfold B_read_gate
    refine cs_nx (r1 := [some (.str s), some (.ob 0), none]) (O1 := SR0 (l1 ++ [([], p)]) 0) ?_ ?_
    · rw [ev_setS, ev_makeE]
      simp only [ev_consA, ev_nilA, ev_var', List.getElem?_cons_zero, bind_ok', List.length_cons, List.length_nil, Nat.zero_add, if_true, List.nil_append]
      rw [hI]; rfl
    have me : ∀ rs, methE 6 1 (fn_Reader_any_of 100) (varE 1) nilA (some (.str s) :: some (.ob 0) :: rs) (SR0 (l1 ++ [([], p)]) 0) = .ok v (SR0 [([], p)] 0) := fun rs => by
      have := mg []
      rw [ev_methE] at this ⊢
      simpa only [ev_var', ev_nilA, List.getElem?_cons_zero, List.getElem?_cons_succ] using this
    have mf : ∀ rs, methE 6 1 fn_Reader_next_word (varE 1) nilA (some (.str s) :: some (.ob 0) :: rs) (SR0 [([], p)] 0) = .ok (.str []) (SR0 [([], p)] 0) := fun rs => by
      have := mn []
      rw [ev_methE] at this ⊢
      simpa only [ev_var', ev_nilA, List.getElem?_cons_zero, List.getElem?_cons_succ] using this
    generalize SR0 (l1 ++ [([], p)]) 0 = S at *
    generalize SR0 [([], p)] 0 = S1 at *
    refine cs_nx (r1 := [some (.str s), some (.ob 0), some v]) (O1 := S1) (by rw [ev_setS, me]; rfl) ?_
    refine cs_nx (r1 := [some (.str s), some (.ob 0), some v]) (O1 := S1) (if_f (O1 := S1) ?_ rfl) (by simp)
    rw [ev_cmpT, mf]; simp
  exact run_ret hB
theorem gate_any {g : Gate} (hf : gfin g = true) (hz : gsz g ≤ 90000) (n : Nat) (d : Int) (hn : 3 * dp g + 3 ≤ n) (h0 : 0 ≤ d) (hd : d + dp g ≤ 30) : Gives (fn_Reader_any_of n) (gw g) (gateD g) d (fun w => w ≠ [97, 110, 100] ∧ w ≠ [111, 114]) := by
  obtain ⟨m, rfl⟩ : ∃ m, n = m + 1 := ⟨n - 1, by omega⟩
  exact any_of_run (read_all g hf hz).2.2 m d (by omega) h0 hd hz
end Dn
set_option linter.all false
set_option maxRecDepth 100000
namespace Dn.LibD
open Dn PySem Lib
def B__law_name : DS0 :=
  (consS (setS 2 (lcE false (callI range1F (consA (fnE 3 fn__law_draw (consA (varE 0) (consA (varE 1) (consA (constE (.int 5)) nilA)))) nilA)) (nameG 3) yesT (fnE 3 fn__law_pick (consA (varE 0) (consA (varE 1) (consA (lstE false (consA (constE (.str [97])) (consA (constE (.str [98])) (consA (constE (.str [97, 98])) (consA (constE (.str [120, 95, 57])) (consA (constE (.str [97, 98, 99, 100, 101, 102, 103, 104])) nilA)))))) nilA)))) [3]))
    (retS (bmE tyStr joinF (constE (.str [46])) (consA (varE 2) nilA))))
def fn__law_name : Fn := runFn 4 B__law_name
def B__law_gate (r__law_gate : Fn) : DS0 :=
  (consS (setS 3 (fnE 3 fn__law_draw (consA (varE 0) (consA (varE 1) (consA (ifE (truT (varE 2)) (constE (.int 8)) (constE (.int 4))) nilA)))))
    (consS (ifS (cmpT eqD (varE 3) (constE (.int 0)))
    (retS (tupE (consA (fnE 3 fn__law_pick (consA (varE 0) (consA (varE 1) (consA (lstE false (consA (constE (.str [121, 101, 115])) (consA (constE (.str [110, 111])) nilA))) nilA)))) nilA)))
    nilS)
    (consS (ifS (cmpT eqD (varE 3) (constE (.int 1)))
    (retS (tupE (consA (constE (.str [108, 101, 118, 101, 108])) (consA (fnE 3 fn__law_draw (consA (varE 0) (consA (varE 1) (consA (constE (.int 100)) nilA)))) nilA))))
    nilS)
    (consS (ifS (cmpT eqD (varE 3) (constE (.int 2)))
    (retS (tupE (consA (constE (.str [117, 110, 100, 101, 114])) (consA (fnE 2 fn__law_name (consA (varE 0) (consA (varE 1) nilA))) nilA))))
    nilS)
    (consS (ifS (cmpT eqD (varE 3) (constE (.int 3)))
    (retS (tupE (consA (constE (.str [104, 97, 115])) (consA (fnE 3 fn__law_pick (consA (varE 0) (consA (varE 1) (consA (lstE false (consA (constE (.str [])) (consA (constE (.str [97])) (consA (constE (.str [32, 98])) (consA (constE (.str [120])) (consA (constE (.str [102, 117, 108, 108])) nilA)))))) nilA)))) nilA))))
    nilS)
    (consS (ifS (cmpT ltD (varE 3) (constE (.int 6)))
    (retS (tupE (consA (constE (.str [110, 111, 116])) (consA (fnE 3 r__law_gate (consA (varE 0) (consA (varE 1) (consA (op2 subD (varE 2) (constE (.int 1))) nilA)))) nilA))))
    nilS)
    (consS (parS 4 5 (consA (fnE 3 r__law_gate (consA (varE 0) (consA (varE 1) (consA (op2 subD (varE 2) (constE (.int 1))) nilA)))) (consA (fnE 3 r__law_gate (consA (varE 0) (consA (varE 1) (consA (op2 subD (varE 2) (constE (.int 1))) nilA)))) nilA)))
    (retS (tupE (consA (fnE 3 fn__law_pick (consA (varE 0) (consA (varE 1) (consA (lstE false (consA (constE (.str [97, 110, 100])) (consA (constE (.str [111, 114])) nilA))) nilA)))) (consA (varE 4) (consA (varE 5) nilA))))))))))))
def fn__law_gate : Nat → Fn
  | 0 => fun _ _ => .bad
  | n + 1 => runFn 6 (B__law_gate (fn__law_gate n))
def B__law_record : DS0 :=
  (consS (setS 3 (fnE 3 fn__law_pick (consA (varE 0) (consA (varE 1) (consA (lstE false (consA (constE (.str [])) (consA (constE (.str [97, 32, 98])) (consA (constE (.str [105, 116, 39, 115])) (consA (constE (.str [120])) (consA (constE (.str [32, 32, 116, 119, 111])) (consA (constE (.str [100, 105, 115, 107, 32, 123, 102, 117, 108, 108, 125])) (consA (op2 mulSD (constE (.str [119])) (constE (.int 80))) nilA)))))))) nilA)))))
    (retS (tupE (consA (varE 2) (consA (fnE 3 fn__law_draw (consA (varE 0) (consA (varE 1) (consA (constE (.int 100)) nilA)))) (consA (fnE 2 fn__law_name (consA (varE 0) (consA (varE 1) nilA))) (consA (varE 3) nilA)))))))
def fn__law_record : Fn := runFn 4 B__law_record
end Dn.LibD
set_option linter.all false
set_option maxRecDepth 100000
set_option maxHeartbeats 4000000
namespace Dn
open PySem Lib LibD
theorem joinL_le (a : Tx) : ∀ ps : List Tx, (TL.joinL a ps).length ≤ (ps.map (·.length)).sum + ps.length * a.length
  | [] => by simp [TL.joinL]
  | [p] => by simp [TL.joinL]
  | p :: q :: ps => by
    have := joinL_le a (q :: ps)
    simp only [TL.joinL, List.length_append, List.map_cons, List.sum_cons, List.length_cons, Nat.add_mul, Nat.one_mul] at this ⊢
    omega
theorem sum_le {b : Nat} : ∀ xs : List Tx, (∀ x ∈ xs, x.length ≤ b) → (xs.map (·.length)).sum ≤ b * xs.length
  | [], _ => by simp
  | x :: xs, h => by
    have h1 := h x (by simp)
    have h2 := sum_le xs fun y hy => h y (by simp [hy])
    simp only [List.map_cons, List.sum_cons, List.length_cons, Nat.mul_add, Nat.mul_one]; omega
theorem town_nameN (ns : List Int) {O : Sto} {t : Nat} (ht : t < 900000) (hT : TownAt O t) :
    ∃ (name : Tx) (O' : Sto) (t' : Nat), Nm name ∧ name.length ≤ 40 ∧ t' ≤ t + 5 ∧ TownAt O' t' ∧ Off O O' ∧ LibD.fn__law_name [.scr (ns.map D.int), .ob 0] O = .ok (.str name) O' := by
  have hs : sizeLine = 16777216 := sizeLine_nat
  obtain ⟨d1, O1, a1, b1, e1, T1, F1⟩ := draw_ok ns (m := 5) (by omega) (by omega) hT
  obtain ⟨n, rfl⟩ : ∃ n : Nat, d1 = n := ⟨d1.toNat, by omega⟩
  have hrl : (rangeD 0 (n : Int)).length = n := by simp [rangeD]
  obtain ⟨ys, O2, lc, yl, yp, T2, F2⟩ := lcL_inv (t := nameG 3) (el := fnE 3 fn__law_pick (consA (varE 0) (consA (varE 1) (consA (lstE false (consA (constE (.str [97])) (consA (constE (.str [98])) (consA (constE (.str [97, 98])) (consA (constE (.str [120, 95, 57])) (consA (constE (.str [97, 98, 99, 100, 101, 102, 103, 104])) nilA)))))) nilA)))) (st := []) (r := [some (.scr (ns.map D.int)), some (.ob 0), none, none])
    (fun i O => TownAt O (t + 1 + i) ∧ Off O1 O) (fun d => ∃ x : Tx, d = .str x ∧ good x = true) (items := rangeD 0 (n : Int)) (acc := []) (k := 0) (O := O1) (by
      rintro i d O hi ⟨hT, hF⟩
      have hlt : i < n := by have := (List.getElem?_eq_some_iff.mp hi).1; omega
      obtain ⟨y, O', hd, e, T', F'⟩ := pick_ok ns (O := O) (t := t + 1 + (0 + i)) (ds := [.str [97], .str [98], .str [97, 98], .str [120, 95, 57], .str [97, 98, 99, 100, 101, 102, 103, 104]]) (by simp) (by omega) hT
      have hy : ∃ x : Tx, y = .str x ∧ good x = true := by
        simp only [List.mem_cons, List.not_mem_nil, or_false] at hd
        rcases hd with rfl | rfl | rfl | rfl | rfl <;> exact ⟨_, rfl, by decide⟩
      exact ⟨[some (.scr (ns.map D.int)), some (.ob 0), none, some d], y, O', rfl, by simp [hs, e], hy, T', hF.trans F'⟩) ⟨T1, Off.refl O1⟩ (fun _ _ _ => rfl) (by rw [hs]; simp only [List.length_nil, hrl]; omega)
  obtain ⟨xs, rfl, hx⟩ := strs_ex yp
  rw [List.nil_append] at lc
  rw [hrl] at T2
  rw [List.length_map, hrl] at yl
  have hsum := sum_le xs (b := 8) fun x h => (of_good (hx x h)).2.1
  have hNm : Nm (TL.joinL [46] xs) := by
    by_cases q : xs = []
    · subst q; exact .inl rfl
    · exact Nm_of q (by omega) hx
  have hjl := joinL_le [46] xs
  simp only [List.length_singleton, Nat.mul_one] at hjl
  have hj := join_lst [46] xs O2 (Nat.le_trans (Nat.add_le_add_right hsum _) (by simp only [List.length_singleton]; omega))
  refine ⟨TL.joinL [46] xs, O2, t + 1 + (0 + n), hNm, by omega, by omega, T2, F1.trans F2, ?_⟩
  have hB : LibD.B__law_name [some (.scr (ns.map D.int)), some (.ob 0), none, none] O = .ret (.str (TL.joinL [46] xs)) O2 := by
    unfold LibD.B__law_name
    refine cs_nx (r1 := [some (.scr (ns.map D.int)), some (.ob 0), some (.lst (xs.map D.str)), none]) (O1 := O2) ?_ ?_
    · have hf : fits (n : Int) = true := by simp [fits]; omega
      have e0 : fnE 3 fn__law_draw (consA (varE 0) (consA (varE 1) (consA (constE (.int 5)) nilA))) [some (.scr (ns.map D.int)), some (.ob 0), none, none] O = .ok (.int n) O1 := by simp [e1]
      have er : callI range1F (consA (fnE 3 fn__law_draw (consA (varE 0) (consA (varE 1) (consA (constE (.int 5)) nilA)))) nilA) [some (.scr (ns.map D.int)), some (.ob 0), none, none] O = .ok ⟨rangeD 0 n, []⟩ O1 := by
        rw [ev_callI, ev_consA, e0, bind_ok', ev_nilA, bind_ok', bind_ok', range1_int, if_pos hf]
      have hwp : wipeR [some (.scr (ns.map D.int)), some (.ob 0), none, none] [3] = [some (.scr (ns.map D.int)), some (.ob 0), none, none] := by simp [wipeR]
      rw [ev_setS, ev_lcE, er, bind_ok', hwp, lc, bind_ok', ev_mkF, bindS_ok']
      rfl
    · generalize xs.map D.str = L at hj ⊢
      generalize TL.joinL [46] xs = J at hj ⊢
      simp [tyStr, hj]
  simp [LibD.fn__law_name, runFn_eq, hB]
end Dn
set_option linter.all false
set_option maxRecDepth 100000
set_option maxHeartbeats 4000000
namespace Dn
open PySem Lib LibC
/-- no brackets in its texts -/
def gnb : Gate → Bool
  | .has x => x.all fun c => decide (c ≠ 40) && decide (c ≠ 41)
  | .neg g => gnb g
  | .con g h => gnb g && gnb h
  | .dis g h => gnb g && gnb h
  | _ => true
structure TG (n : Nat) (g : Gate) : Prop where
  f : gfin g = true
  b : gnb g = true
  z : gsz g ≤ n
theorem gate_town (ns : List Int) : ∀ (k n : Nat) {O : Sto} {t : Nat}, k < n → k ≤ 8 → t + 8 * 2 ^ (k + 1) < 800000 → TownAt O t →
    ∃ (g : Gate) (O' : Sto) (t' : Nat), TG (2 ^ (k + 1) - 1) g ∧ t' + 8 ≤ t + 8 * 2 ^ (k + 1) ∧ TownAt O' t' ∧ Off O O' ∧ LibD.fn__law_gate n [.scr (ns.map D.int), .ob 0, .int k] O = .ok (gateD g) O'
  | _, 0, _, _, h, _, _, _ => absurd h (Nat.not_lt_zero _)
  | k, n + 1, O, t, hkn, hk8, ht, hT => by
    have hs : sizeLine = 16777216 := sizeLine_nat
    have hp2 : 2 ^ (k + 1) = 2 * 2 ^ k := by rw [Nat.pow_succ]; omega
    have hp1 : 1 ≤ 2 ^ k := Nat.one_le_two_pow
    have hm : ifE (truT (varE 2)) (constE (.int 8)) (constE (.int 4)) [some (.scr (ns.map D.int)), some (.ob 0), some (.int k), none, none, none] O = .ok (.int (if k = 0 then 4 else 8)) O := by
      by_cases q : k = 0
      · subst q; simp
      · simp [q]
    obtain ⟨d1, O1, a1, b1, e1, T1, F1⟩ := draw_ok ns (m := if k = 0 then 4 else 8) (by split <;> omega) (by omega) hT
    have hb : d1 < 4 ∨ 0 < k := by
      by_cases q : k = 0
      · subst q; simp at b1; omega
      · omega
    have hb8 : d1 < 8 := by
      by_cases q : k = 0
      · subst q; simp at b1; omega
      · rw [if_neg q] at b1; exact b1
    have hd : fnE 3 Lib.fn__law_draw (consA (varE 0) (consA (varE 1) (consA (ifE (truT (varE 2)) (constE (.int 8)) (constE (.int 4))) nilA))) [some (.scr (ns.map D.int)), some (.ob 0), some (.int k), none, none, none] O = .ok (.int d1) O1 := by
      rw [ev_fnE, ev_consA, ev_var', List.getElem?_cons_zero]
      simp only [bind_ok']
      rw [ev_consA, ev_var', List.getElem?_cons_succ, List.getElem?_cons_zero]
      simp only [bind_ok']
      rw [ev_consA, hm, bind_ok']
      simp [e1]
    have fin : ∀ (g : Gate) (O' : Sto) (t' : Nat), TG (2 ^ (k + 1) - 1) g → t' + 8 ≤ t + 8 * 2 ^ (k + 1) → TownAt O' t' → Off O1 O' →
        LibD.B__law_gate (LibD.fn__law_gate n) [some (.scr (ns.map D.int)), some (.ob 0), some (.int k), none, none, none] O = .ret (gateD g) O' →
        ∃ (g : Gate) (O' : Sto) (t' : Nat), TG (2 ^ (k + 1) - 1) g ∧ t' + 8 ≤ t + 8 * 2 ^ (k + 1) ∧ TownAt O' t' ∧ Off O O' ∧ LibD.fn__law_gate (n + 1) [.scr (ns.map D.int), .ob 0, .int k] O = .ok (gateD g) O' :=
      fun g O' t' h1 h2 h3 h4 h5 => ⟨g, O', t', h1, h2, h3, F1.trans h4, run_ret (B := LibD.B__law_gate (LibD.fn__law_gate n)) h5⟩
    have st1 : ∀ {x : SR} {gs : DS0}, gs [some (.scr (ns.map D.int)), some (.ob 0), some (.int k), some (.int d1), none, none] O1 = x → consS (setS 3 (fnE 3 Lib.fn__law_draw (consA (varE 0) (consA (varE 1) (consA (ifE (truT (varE 2)) (constE (.int 8)) (constE (.int 4))) nilA))))) gs [some (.scr (ns.map D.int)), some (.ob 0), some (.int k), none, none, none] O = x := fun h =>
      cs_nx (r1 := [some (.scr (ns.map D.int)), some (.ob 0), some (.int k), some (.int d1), none, none]) (O1 := O1) (by rw [ev_setS, hd]; rfl) h
    by_cases q0 : d1 = 0
    · obtain ⟨d2, O2, hd2, e2, T2, F2⟩ := pick_ok ns (O := O1) (t := t + 1) (ds := [.str [121, 101, 115], .str [110, 111]]) (by simp) (by omega) T1
      have hg : ∃ g, TG (2 ^ (k + 1) - 1) g ∧ gateD g = .tup [d2] := by
        simp only [List.mem_cons, List.not_mem_nil, or_false] at hd2
        rcases hd2 with rfl | rfl
        · exact ⟨.yes, ⟨rfl, rfl, by simp [gsz]; omega⟩, rfl⟩
        · exact ⟨.no, ⟨rfl, rfl, by simp [gsz]; omega⟩, rfl⟩
      obtain ⟨g, hg, eg⟩ := hg
      refine fin g O2 (t + 1 + 1) hg (by omega) T2 F2 ?_
      unfold LibD.B__law_gate
      refine st1 ?_
      subst q0
      rw [eg]
      simp [e2, hs]
    by_cases q1 : d1 = 1
    · obtain ⟨d2, O2, a2, b2, e2, T2, F2⟩ := draw_ok ns (m := 100) (by omega) (by omega) T1
      refine fin (.lvl d2) O2 (t + 1 + 1) ⟨by simp [gfin]; omega, rfl, by simp [gsz]; omega⟩ (by omega) T2 F2 ?_
      unfold LibD.B__law_gate
      refine st1 ?_
      subst q1
      simp [e2, hs, gateD]
    by_cases q2 : d1 = 2
    · obtain ⟨x, O2, t2, hx, hxl, ht2, T2, F2, e2⟩ := town_nameN ns (by omega) T1
      refine fin (.und x) O2 t2 ⟨isNm_iff.mpr hx, rfl, by simp [gsz]; omega⟩ (by omega) T2 F2 ?_
      unfold LibD.B__law_gate
      refine st1 ?_
      subst q2
      simp [e2, hs, gateD]
    by_cases q3 : d1 = 3
    · obtain ⟨d2, O2, hd2, e2, T2, F2⟩ := pick_ok ns (O := O1) (t := t + 1) (ds := [.str [], .str [97], .str [32, 98], .str [120], .str [102, 117, 108, 108]]) (by simp) (by omega) T1
      have hg : ∃ x, TG (2 ^ (k + 1) - 1) (.has x) ∧ d2 = .str x := by
        simp only [List.mem_cons, List.not_mem_nil, or_false] at hd2
        rcases hd2 with rfl | rfl | rfl | rfl | rfl <;> exact ⟨_, ⟨by decide, by decide, by simp [gsz]; omega⟩, rfl⟩
      obtain ⟨x, hg, rfl⟩ := hg
      refine fin (.has x) O2 (t + 1 + 1) hg (by omega) T2 F2 ?_
      unfold LibD.B__law_gate
      refine st1 ?_
      subst q3
      simp [e2, hs, gateD]
    obtain ⟨j, rfl⟩ : ∃ j, k = j + 1 := ⟨k - 1, by omega⟩
    have hp3 : 2 ^ (j + 1 + 1) = 2 * 2 ^ (j + 1) := by rw [Nat.pow_succ]; omega
    have hj : ((j + 1 : Nat) : Int) - 1 = (j : Int) := by omega
    obtain ⟨g1, O2, t2, G1, ht2, T2, F2, e2⟩ := gate_town ns j n (by omega) (by omega) (t := t + 1) (by omega) T1
    by_cases q6 : d1 < 6
    · refine fin (.neg g1) O2 t2 ⟨G1.f, G1.b, by have := G1.z; simp [gsz]; omega⟩ (by omega) T2 F2 ?_
      unfold LibD.B__law_gate
      refine st1 ?_
      simp [q0, q1, q2, q3, q6, e2, hs, gateD]
    · obtain ⟨g2, O3, t3, G2, ht3, T3, F3, e3⟩ := gate_town ns j n (by omega) (by omega) (t := t2) (by omega) T2
      obtain ⟨d4, O4, hd4, e4, T4, F4⟩ := pick_ok ns (O := O3) (t := t3) (ds := [.str [97, 110, 100], .str [111, 114]]) (by simp) (by omega) T3
      have hg : ∃ g, TG (2 ^ (j + 1 + 1) - 1) g ∧ gateD g = .tup [d4, gateD g1, gateD g2] := by
        have z1 := G1.z
        have z2 := G2.z
        simp only [List.mem_cons, List.not_mem_nil, or_false] at hd4
        rcases hd4 with rfl | rfl
        · exact ⟨.con g1 g2, ⟨by simp [gfin, G1.f, G2.f], by simp [gnb, G1.b, G2.b], by simp [gsz]; omega⟩, rfl⟩
        · exact ⟨.dis g1 g2, ⟨by simp [gfin, G1.f, G2.f], by simp [gnb, G1.b, G2.b], by simp [gsz]; omega⟩, rfl⟩
      obtain ⟨g, hg, eg⟩ := hg
      refine fin g O4 (t3 + 1) hg (by omega) T4 ((F2.trans F3).trans F4) ?_
      unfold LibD.B__law_gate
      refine st1 ?_
      rw [eg]
      generalize gateD g1 = D1 at *
      generalize gateD g2 = D2 at *
      simp [q0, q1, q2, q3, q6, e2, e3, e4, hs, parS]
theorem eqD_same {d : D} {O : Sto} {n : Nat} (hn : n ≤ 64) (h : okN n d = true) (hu : unob d O = d) (hq : quick d d = false) : eqD d d O = .ok (.bl true) O := by
  have h1 := okD_of hn h
  have hp : pure' d = true := by
    simp only [okN, Bool.and_eq_true] at h
    exact h.1
  unfold eqD
  rw [hq, hu, h1, eqv_rfl d hp]
  simp
end Dn
set_option Elab.async false
set_option linter.all false
set_option maxRecDepth 100000
set_option maxHeartbeats 4000000
namespace Dn
open PySem PySem.Spec PyProof.Rows L2
end Dn
set_option Elab.async false
set_option linter.all false
set_option maxRecDepth 100000
set_option maxHeartbeats 4000000
namespace Dn
open PySem PySem.Spec PySem.OwnX PyProof.Rows L2
end Dn
set_option Elab.async false
set_option linter.all false
set_option maxRecDepth 100000
set_option maxHeartbeats 4000000
namespace Dn
open PySem PySem.Spec PyProof.Rows L2
end Dn
set_option Elab.async false
set_option linter.all false
set_option maxRecDepth 100000
set_option maxHeartbeats 4000000
namespace Dn
open PySem PySem.Spec PyProof.Rows L2
end Dn
set_option Elab.async false
set_option linter.all false
set_option maxRecDepth 100000
set_option maxHeartbeats 4000000
namespace Dn
open PySem PySem.Spec PyProof.Rows L2
section
variable {C : Ctx} {X : Cx} {W : WX} {a o e : Expr} {es : List Expr} {fa fo : DE0} {fas : Rho → Sto → Res (List D)} {p pos apos : Pos}
def revE (m : Bool) (f : DE0) : DE0 := fun r O => (f r O).bind fun d O1 => match listR d O1 with | some ds => mkL m ds.reverse O1 | none => .bad
@[simp] theorem ev_revE (m : Bool) (f : DE0) (r : Rho) (O : Sto) : revE m f r O = (f r O).bind fun d O1 => match listR d O1 with | some ds => mkL m ds.reverse O1 | none => .bad := rfl
end
end Dn
set_option Elab.async false
set_option linter.all false
set_option maxRecDepth 100000
set_option maxHeartbeats 4000000
namespace Dn
open PySem PySem.Spec PyProof.Rows L2
end Dn
set_option Elab.async false
set_option linter.all false
set_option maxRecDepth 100000
set_option maxHeartbeats 4000000
namespace Dn
open PySem PySem.Spec PyProof.Rows L2
end Dn
set_option Elab.async false
set_option linter.all false
set_option maxRecDepth 100000
set_option maxHeartbeats 4000000
namespace L2
open PySem PySem.Spec PyProof.Rows
end L2
namespace Dn
open PySem PySem.Spec PyProof.Rows L2
end Dn
set_option Elab.async false
set_option linter.all false
set_option maxRecDepth 100000
set_option maxHeartbeats 4000000
namespace L2
open PySem PySem.Spec PyProof.Rows
end L2
namespace Dn
open PySem PySem.Spec PyProof.Rows L2
end Dn
set_option Elab.async false
set_option linter.all false
set_option maxRecDepth 100000
set_option maxHeartbeats 4000000
namespace Dn
open PySem PySem.Spec PyProof.Rows L2
section
variable {C : Ctx} {X : Cx} {W : WX} {o e f x : Expr} {fo : DE0} {p apos cpos pos pos' : Pos}
def keysL (kvs : List (DKey × D)) : List D := kvs.map fun q => keyB q.1
theorem shrK_key {K : PySem.W.Frag} {g : G} : ∀ {kvs : List (DKey × D)} {vs : List (Key × V)} {i : Nat} {d : D} {k : Key} {v : V}, ShrK K g kvs vs → (keysL kvs)[i]? = some d → vs[i]? = some (k, v) → ∀ g', Shr K g' d (kV k)
  | [], vs, i, d, k, v, h, h1, h2 => by simp [keysL] at h1
  | p :: kvs, vs, 0, d, k, v, h, h1, h2 => by
    simp only [ShrK] at h
    obtain ⟨v', r, rfl, s2, h3⟩ := h
    simp [keysL] at h1 h2
    obtain ⟨rfl, rfl⟩ := h2
    subst h1
    intro g'
    cases p.1 with
    | inl i => rfl
    | inr x => rfl
  | p :: kvs, vs, i + 1, d, k, v, h, h1, h2 => by
    simp only [ShrK] at h
    obtain ⟨v', r, rfl, s2, h3⟩ := h
    exact shrK_key (i := i) h3 (by simpa [keysL] using h1) (by simpa using h2)
open Classical in
noncomputable def kyK (t : TG0) (b : DS0) (l : Nat) (c : Cell) (kvs : List (DKey × D)) (r : Rho) : D → Sto → SR := fun d O1 => match d with
  | .ob l' => if l' = l ∧ O1[l]? = some c then forKL t b l c (keysL kvs) r O1 else .bad
  | _ => .bad
noncomputable def kyR (fo : DE0) (t : TG0) (b : DS0) (l : Nat) (kvs : List (DKey × D)) (r : Rho) (O : Sto) (u : HO) : SR :=
  openS l (.loc u kvs) kvs ((fo r (O.set l (.loc u kvs))).bindS r (kyK t b l (.loc u kvs) kvs r))
open Classical in
noncomputable def forKyS (fo : DE0) (t : TG0) (b : DS0) : DS0 := fun r O => match fo r O with
  | .ok (.ob l) _ => match O[l]? with
    | some (.dic kvs) => if h : ∃ x, ∀ u, kyR fo t b l kvs r O u = x then h.choose else .bad
    | _ => .bad
  | _ => .bad
theorem forKyS_eq {fo : DE0} {t : TG0} {b : DS0} {r : Rho} {O O' : Sto} {l : Nat} {kvs : List (DKey × D)} {x : SR} (h1 : fo r O = .ok (.ob l) O') (h2 : O[l]? = some (.dic kvs)) (h3 : ∀ u, kyR fo t b l kvs r O u = x) : forKyS fo t b r O = x := by
  unfold forKyS
  rw [h1]
  simp only [h2]
  have h : ∃ x, ∀ u, kyR fo t b l kvs r O u = x := ⟨x, h3⟩
  rw [dif_pos h]
  rw [← h.choose_spec (.own 0), h3]
theorem kyR_eq {fo : DE0} {t : TG0} {b : DS0} {l : Nat} {kvs : List (DKey × D)} {r : Rho} {O O1 : Sto} {u : HO} {x y : SR} (h1 : fo r (O.set l (.loc u kvs)) = .ok (.ob l) O1) (h2 : O1[l]? = some (.loc u kvs)) (h3 : forKL t b l (.loc u kvs) (keysL kvs) r O1 = y) (h4 : openS l (.loc u kvs) kvs y = x) : kyR fo t b l kvs r O u = x := by
  unfold kyR
  rw [h1]
  show openS l (.loc u kvs) kvs (kyK t b l (.loc u kvs) kvs r (.ob l) O1) = x
  unfold kyK
  dsimp only
  rw [if_pos ⟨rfl, h2⟩, h3, h4]
theorem s_forKy {tg : Expr} {body : List Stmt} {f : DS0} {own : List Nat} {t : TG0} (hp : PassesOwn (model X.prog X.w) X.A X.env X.xe) (hc : X.calm = true) (ho : DE C X W o fo) (hg : DG C X tg own t) (hb : DSs C X W body f)
    (hs : ∀ x, foldedSetIterable o X.env x = pure x := by intro _; rfl) :
    DS C X W (.For tg o body [] pos) (forKyS fo t f) :=
  let ⟨_, po, so⟩ := ho.ex; let ⟨_, q, u⟩ := hg.ex; let ⟨_, pb, sb⟩ := hb.ex
  ⟨_, ps_lock (ps_for hp hc (pi_keys po) q pb (hs := hs)), fun g0 σ0 H0 r0 O0 R0 S0 E h0 => by
    unfold forKyS at h0
    split at h0
    · rename_i l _ _
      split at h0
      · rename_i kvs hcell
        split at h0
        · rename_i hx
          have hl : l < g0.n := by rw [R0.n]; exact (List.getElem?_eq_some_iff.mp hcell).1
          obtain ⟨vs, hd, sk⟩ := R0.cell l _ hcell
          refine ⟨g0.θ l, .dK vs, hd, trivial, fun od => ?_⟩
          have h1 : PostS C W g0 H0 (kyR fo t f l kvs r0 O0 (.frz od (.dK vs))) E := by rw [hx.choose_spec]; exact h0
          unfold kyR at h1
          have h2 := open_post R0 hl hd sk h1
          have RL : RepO C g0 (upd H0 (g0.θ l) (.frz od (.dK vs))) (O0.set l (.loc (.frz od (.dK vs)) kvs)) := R0.set hl ⟨upd_same, od, vs, rfl, sk⟩
          show iKeys _ σ0 _ _
          refine so.seqS RL S0 h2 fun d O1 v g1 H1 e1 R1 S1 s1 h3 => ?_
          unfold kyK at h3
          split at h3
          · rename_i l'
            split at h3
            · rename_i hh
              obtain ⟨rfl, hO1⟩ := hh
              have s1 : v = .ref (g1.θ l') ∧ l' < g1.n := s1
              obtain ⟨rfl, hl1⟩ := s1
              obtain ⟨c1, _⟩ := R1.cell l' _ hO1
              refine ⟨g1.θ l', od, rfl, .inl ⟨vs, c1, ?_⟩⟩
              have eqθ : g1.θ l' = g0.θ l' := e1.le.θ l' hl
              refine ⟨fun i m σ H => m = (keysL kvs).length - i ∧ i ≤ (keysL kvs).length ∧ ∃ g r O, GLe g1 g ∧ RepO C g H O ∧ RepS C g σ r ∧ PostS C W g H (forKL t f l' (.loc (.frz od (.dK vs)) kvs) ((keysL kvs).drop i) r O) (lockD (g0.θ l') (.frz od (.dK vs)) (.dK vs) E), ⟨_, rfl, Nat.zero_le _, g1, r0, O1, GLe.refl _, R1, S1, h3⟩, ?_⟩
              have hlen : vs.length = (keysL kvs).length := by rw [shrK_len sk]; simp [keysL]
              rintro i m σ H ⟨rfl, hi, g, r, O, le, R, S, h⟩
              by_cases hlt : i < (keysL kvs).length
              · obtain ⟨d, hd2⟩ : ∃ d, (keysL kvs)[i]? = some d := ⟨_, List.getElem?_eq_getElem hlt⟩
                have hdrop : (keysL kvs).drop i = d :: (keysL kvs).drop (i + 1) := by
                  rw [List.drop_eq_getElem_cons hlt]
                  congr 1
                  rw [List.getElem?_eq_getElem hlt] at hd2
                  exact Option.some.inj hd2
                rw [hdrop] at h
                unfold forKL at h
                split at h
                · rename_i hst
                  obtain ⟨c2, _⟩ := R.cell l' _ hst
                  rw [le.θ l' hl1] at c2
                  refine .inr ⟨⟨c2, by rw [hlen]; exact hlt⟩, fun σ' H' => ∃ g r O, GLe g1 g ∧ RepO C g H' O ∧ RepS C g σ' r ∧ PostS C W g H' (forKL t f l' (.loc (.frz od (.dK vs)) kvs) ((keysL kvs).drop (i + 1)) r O) (lockD (g0.θ l') (.frz od (.dK vs)) (.dK vs) E), fun σ' H' hh => ⟨_, ?_, rfl, hlt, hh⟩, fun x H2 y => ?_⟩
                  · omega
                  obtain ⟨rfl, k, v, ev, rfl⟩ := y
                  have s2 : Shr C.K g d (kV k) := shrK_key sk hd2 ev g
                  refine u _ σ _ r O R S d _ s2 _ ?_
                  cases z : t d r O with
                  | none => rw [z] at h; exact h.elim
                  | some y =>
                    obtain ⟨r1, O3⟩ := y
                    rw [z] at h
                    intro σ3 g3 H3 e3 R3 S3 _
                    refine sb g3 σ3 H3 r1 O3 R3 S3 _ ?_
                    have h := PostS.shift e3 h
                    cases z2 : f r1 O3 with
                    | nx r2 O2 => simp only [z2] at h; exact fun σ4 g4 H4 e4 R4 S4 => ⟨g4, r2, O2, le.trans (e3.le.trans e4.le), R4, S4, PostS.shift e4 h⟩
                    | ct r2 O2 => simp only [z2] at h; exact fun σ4 g4 H4 e4 R4 S4 => ⟨g4, r2, O2, le.trans (e3.le.trans e4.le), R4, S4, PostS.shift e4 h⟩
                    | bk r2 O2 => simp only [z2] at h; exact h
                    | ret d O2 => simp only [z2] at h; exact h
                    | exc e r2 O2 => simp only [z2] at h; exact h
                    | bad => simp only [z2] at h; exact h
                · exact h.elim
              · have hi' : i = (keysL kvs).length := by omega
                subst hi'
                rw [List.drop_length] at h
                unfold forKL at h
                split at h
                · rename_i hst
                  obtain ⟨c2, _⟩ := R.cell l' _ hst
                  rw [le.θ l' hl1] at c2
                  exact .inl ⟨⟨c2, by rw [hlen]; exact Nat.le_refl _⟩, h σ g H (Ext.refl R) R S⟩
                · exact h.elim
            · exact h3.elim
          · exact h3.elim
        · exact h0.elim
      · exact h0.elim
    · exact h0.elim⟩
open Classical in
noncomputable def lcLK (t : TG0) (cf : Rho → Sto → Res Bool) (el : DE0) (l : Nat) (c : Cell) (r : Rho) : List D → List D → Sto → Res (List D)
  | [], acc, O => if O[l]? = some c then .ok acc O else .bad
  | d :: ds, acc, O => if O[l]? = some c then (match t d r O with
      | none => .bad
      | some (r1, O1) => match cf r1 O1 with
        | .ok true O2 => (match el r1 O2 with
          | .ok y O3 => if acc.length < sizeLine then lcLK t cf el l c r ds (acc ++ [y]) O3 else .bad
          | _ => .bad)
        | .ok false O2 => lcLK t cf el l c r ds acc O2
        | _ => .bad) else .bad
def toS : ER → SR | .ok d O => .ret d O | _ => .bad
def ofS : SR → ER | .ret d O => .ok d O | _ => .bad
open Classical in
noncomputable def lkK (m : Bool) (t : TG0) (cf : Rho → Sto → Res Bool) (el : DE0) (own : List Nat) (l : Nat) (c : Cell) (kvs : List (DKey × D)) (r : Rho) : D → Sto → ER := fun d O1 => match d with
  | .ob l' => if l' = l ∧ O1[l]? = some c then (lcLK t cf el l c (wipeR r own) (keysL kvs) [] O1).bind fun ds O2 => mkL m ds O2 else .bad
  | _ => .bad
noncomputable def lkR (m : Bool) (fo : DE0) (t : TG0) (cf : Rho → Sto → Res Bool) (el : DE0) (own : List Nat) (l : Nat) (kvs : List (DKey × D)) (r : Rho) (O : Sto) (u : HO) : ER :=
  ofS (openS l (.loc u kvs) kvs (toS ((fo r (O.set l (.loc u kvs))).bind (lkK m t cf el own l (.loc u kvs) kvs r))))
open Classical in
noncomputable def lcKE (m : Bool) (fo : DE0) (t : TG0) (cf : Rho → Sto → Res Bool) (el : DE0) (own : List Nat) : DE0 := fun r O => match fo r O with
  | .ok (.ob l) _ => match O[l]? with
    | some (.dic kvs) => if h : ∃ x, ∀ u, lkR m fo t cf el own l kvs r O u = x then h.choose else .bad
    | _ => .bad
  | _ => .bad
theorem lcKE_eq {m : Bool} {fo : DE0} {t : TG0} {cf : Rho → Sto → Res Bool} {el : DE0} {own : List Nat} {r : Rho} {O O' : Sto} {l : Nat} {kvs : List (DKey × D)} {x : ER} (h1 : fo r O = .ok (.ob l) O') (h2 : O[l]? = some (.dic kvs)) (h3 : ∀ u, lkR m fo t cf el own l kvs r O u = x) : lcKE m fo t cf el own r O = x := by
  unfold lcKE
  rw [h1]
  simp only [h2]
  have h : ∃ x, ∀ u, lkR m fo t cf el own l kvs r O u = x := ⟨x, h3⟩
  rw [dif_pos h]
  rw [← h.choose_spec (.own 0), h3]
theorem toS_post {g : G} {σ : L2.St} {H : Hp} {x : ER} {E : Ends} (h : PostS C W g H (toS x) E) : Post C W σ g H x E.rt := by
  cases x with
  | ok d O => exact h
  | exc e O => exact h.elim
  | bad => exact h.elim
theorem ofS_post {g : G} {σ : L2.St} {H : Hp} {x : SR} {Q : VK} (h : Post C W σ g H (ofS x) Q) : PostS C W g H x { nx := fun _ _ => False, rt := Q } := by
  cases x with
  | ret d O => exact h
  | nx r O => exact h.elim
  | bk r O => exact h.elim
  | ct r O => exact h.elim
  | exc e r O => exact h.elim
  | bad => exact h.elim
variable {elt tg iter : Expr} {ifs : List Expr} {scope : Scope} {t : TG0} {cf : Rho → Sto → Res Bool} {el : DE0}
theorem lck_sat {td : TE} {tgr : L2.TG} {tt : TT} {te : TE} {own own' : List Nat} {m : Bool} (so : Sat C W td fo) (u : SatG C own' tgr t) (hown : ∀ i ∈ own', i ∈ own) (sc : Sat C (fun _ _ _ _ => False) tt cf) (se : Sat C (fun _ _ _ _ => False) te el) :
    Sat C W (tLockE (tLc (iKeys td) tgr tt te own)) (lcKE m fo t cf el own) := fun g0 σ0 H0 r0 O0 R0 S0 Q h0 => by
  unfold lcKE at h0
  split at h0
  · rename_i l _ _
    split at h0
    · rename_i kvs hcell
      split at h0
      · rename_i hx
        have hl : l < g0.n := by rw [R0.n]; exact (List.getElem?_eq_some_iff.mp hcell).1
        obtain ⟨vs, hd, sk⟩ := R0.cell l _ hcell
        refine ⟨g0.θ l, .dK vs, hd, trivial, fun od => ?_⟩
        have h1 : Post C W σ0 g0 H0 (lkR m fo t cf el own l kvs r0 O0 (.frz od (.dK vs))) Q := by rw [hx.choose_spec]; exact h0
        unfold lkR at h1
        have h2 := toS_post (σ := σ0) (open_post R0 hl hd sk (ofS_post h1))
        have RL : RepO C g0 (upd H0 (g0.θ l) (.frz od (.dK vs))) (O0.set l (.loc (.frz od (.dK vs)) kvs)) := R0.set hl ⟨upd_same, od, vs, rfl, sk⟩
        show iKeys td σ0 _ _
        refine so.seq RL S0 h2 fun d O1 v g1 H1 e1 R1 S1 s1 h3 => ?_
        unfold lkK at h3
        split at h3
        · rename_i l'
          split at h3
          · rename_i hh
            obtain ⟨rfl, hO1⟩ := hh
            have s1 : v = .ref (g1.θ l') ∧ l' < g1.n := s1
            obtain ⟨rfl, hl1⟩ := s1
            obtain ⟨c1, _⟩ := R1.cell l' _ hO1
            refine ⟨g1.θ l', od, rfl, .inl ⟨vs, c1, ?_⟩⟩
            have hlen : vs.length = (keysL kvs).length := by rw [shrK_len sk]; simp [keysL]
            intro D hD
            have hc1 : ∀ l, l < g1.n → g1.θ l ≠ D := fun l hl => R1.ne hD hl
            have Sw := S1.wipe own
            generalize hQ : (lockD (g0.θ l') (.frz od (.dK vs)) (.dK vs) { nx := fun _ _ => False, rt := Q }).rt = Q' at h3
            refine ⟨fun i m' H => m' = (keysL kvs).length - i ∧ i ≤ (keysL kvs).length ∧ ∃ g O acc, LcAt C g1 H1 D g H O acc ∧ Post C W σ0 g1 H1 ((lcLK t cf el l' (.loc (.frz od (.dK vs)) kvs) (wipeR r0 own) ((keysL kvs).drop i) acc O).bind fun ds O2 => mkL m ds O2) Q',
              ⟨_, rfl, Nat.zero_le _, g1, O1, [], ⟨Ext.over (Ext.refl R1) hD hc1, RepO.over R1 (R1.Fnone hD) hc1, R1.Fnone hD, hc1, [], upd_same, by simp [ShrL]⟩, h3⟩, ?_⟩
            rintro i m' H ⟨rfl, hi, g, O, acc, L, h⟩
            by_cases hlt : i < (keysL kvs).length
            · obtain ⟨d, hd2⟩ : ∃ d, (keysL kvs)[i]? = some d := ⟨_, List.getElem?_eq_getElem hlt⟩
              have hdrop : (keysL kvs).drop i = d :: (keysL kvs).drop (i + 1) := by
                rw [List.drop_eq_getElem_cons hlt]
                congr 1
                rw [List.getElem?_eq_getElem hlt] at hd2
                exact Option.some.inj hd2
              rw [hdrop] at h
              unfold lcLK at h
              split at h
              · rename_i hst
                obtain ⟨c2, _⟩ := L.rep.cell l' _ hst
                rw [L.ext.le.θ l' hl1] at c2
                refine .inr ⟨⟨c2, by rw [hlen]; exact hlt⟩, fun H' => ∃ g O acc, LcAt C g1 H1 D g H' O acc ∧ Post C W σ0 g1 H1 ((lcLK t cf el l' (.loc (.frz od (.dK vs)) kvs) (wipeR r0 own) ((keysL kvs).drop (i + 1)) acc O).bind fun ds O2 => mkL m ds O2) Q', fun H' hh => ⟨_, ?_, rfl, hlt, hh⟩, fun x H2 y => ?_⟩
                · omega
                obtain ⟨rfl, k, v, ev, rfl⟩ := y
                have s2 : Shr C.K g d (kV k) := shrK_key sk hd2 ev g
                refine u g _ _ _ O L.rep (Sw.mono L.ext.le) d _ s2 _ ?_
                cases z : t d (wipeR r0 own) O with
                | none => rw [z] at h; exact h.elim
                | some y =>
                  obtain ⟨r1, O3⟩ := y
                  rw [z] at h
                  intro σ3 g3 H3 e3 R3 S3 w3
                  refine ⟨?_, ?_⟩
                  · rw [w3 own hown]
                    exact wipe_idem own σ0
                  have L3 := L.next e3 R3
                  refine sc g3 σ3 H3 r1 O3 R3 S3 _ ?_
                  cases z2 : cf r1 O3 with
                  | bad => simp only [z2] at h; exact h.elim
                  | exc er O4 => simp only [z2] at h; exact h.elim
                  | ok b O4 =>
                    simp only [z2] at h
                    intro b' g4 H4 e4 R4 sb
                    cases sb
                    have L4 := L3.next e4 R4
                    cases b with
                    | false => exact ⟨g4, O4, acc, L4, h⟩
                    | true =>
                      simp only at h
                      rw [if_pos rfl]
                      refine se g4 σ3 H4 r1 O4 R4 (S3.mono e4.le) _ ?_
                      cases z3 : el r1 O4 with
                      | bad => simp only [z3] at h; exact h.elim
                      | exc er O5 => simp only [z3] at h; exact h.elim
                      | ok y O5 =>
                        simp only [z3] at h
                        intro v g5 H5 e5 R5 s5
                        have L5 := L4.next e5 R5
                        obtain ⟨vs', a1, a2⟩ := L5.at'
                        split at h
                        · rename_i hz
                          exact ⟨vs', a1, by rw [shrL_len a2]; exact hz, g5, O5, acc ++ [y], L5.push hD hc1 a1 a2 s5, h⟩
                        · exact h.elim
              · exact h.elim
            · have hi' : i = (keysL kvs).length := by omega
              subst hi'
              rw [List.drop_length] at h
              unfold lcLK at h
              split at h
              · rename_i hst
                obtain ⟨c2, _⟩ := L.rep.cell l' _ hst
                rw [L.ext.le.θ l' hl1] at c2
                refine .inl ⟨⟨c2, by rw [hlen]; exact Nat.le_refl _⟩, ?_⟩
                have h : Post C W σ0 g1 H1 (mkL m acc O) Q' := h
                obtain ⟨vs', a1, a2⟩ := L.at'
                show (lockD (g0.θ l') (.frz od (.dK vs)) (.dK vs) { nx := fun _ _ => False, rt := Q }).rt _ _
                rw [hQ]
                cases m with
                | false =>
                  refine h _ (g.frz D (.lst vs')) H (L.ext.adopt hD L.F) (L.rep.adopt L.F a1 L.c) ?_
                  show Shr _ _ (.lst acc) _
                  simp only [Shr]
                  exact ⟨D, vs', rfl, upd_same, ShrL.mono (GLe.frz L.F) _ _ a2⟩
                | true =>
                  refine h _ (g.add D) H (L.ext.adoptC hD) (L.rep.adoptC L.F L.c ⟨vs', a1, ShrL.mono GLe.add _ _ a2⟩) ?_
                  show Shr _ _ (.ob O.length) _
                  simp only [Shr]
                  rw [← L.rep.n, G.add_at]
                  exact ⟨rfl, Nat.lt_succ_self _⟩
              · exact h.elim
          · exact h3.elim
        · exact h3.elim
      · exact h0.elim
    · exact h0.elim
  · exact h0.elim
theorem d_lcK (m : Bool) (own : List (Str × Nat)) {own' : List Nat} (hc : X.calm = true) (hN : X.N.Nodup) (ho : DE C X W iter fo) (ok : blkC X.N X.env.scope scope own = true) (hown : own'.all (fun i => (own.map (·.2)).contains i) = true)
    (hg : ∀ (s : Shared) (H : Hp) (A : Addr) (cl : List (Str × Addr)) (fp : List Addr), DG C (X.blk s H scope (compEnvC scope cl A X.env) fp) tg own' t)
    (ht : ∀ (s : Shared) (H : Hp) (A : Addr) (cl : List (Str × Addr)) (fp : List Addr), DTs C (X.blk s H scope (compEnvC scope cl A X.env) fp) W0 ifs cf)
    (he : ∀ (s : Shared) (H : Hp) (A : Addr) (cl : List (Str × Addr)) (fp : List Addr), DE C (X.blk s H scope (compEnvC scope cl A X.env) fp) W0 elt el)
    (hs : ∀ x, foldedSetIterable iter X.env x = pure x := by intro _; rfl) : DE C X W (.ListComp elt [⟨tg, iter, ifs, 0⟩] scope pos) (lcKE m fo t cf el (own.map (·.2))) := by
  obtain ⟨_, po, so⟩ := ho.ex
  exact ⟨_, pe_lock (pe_lc hc hN (pi_keys po) (blkOk_by ok) (fun s H A cl fp => (hg s H A cl fp).canon) (fun s H A cl fp => (ht s H A cl fp).canon) (fun s H A cl fp => (he s H A cl fp).canon) hs),
    lck_sat so canonG_sat (fun i hi => by simpa using List.all_eq_true.mp hown i hi) canon_sat canon_sat⟩
def ixLD : O2 := fun a b O => match a with
  | .ob l => (match O[l]? with
    | some (.loc _ kvs) => (match keyD b with | some k => (match getK kvs k with | some d => .ok d O | none => .bad) | none => .bad)
    | _ => ixD (.ob l) b O)
  | a => ixD a b O
theorem s_ixL : Sat2 C W (rIxA C.K) ixLD := by
  intro g H O R a b x y sx sy σ Q h
  unfold ixLD at h
  split at h
  · rename_i l
    split at h
    · rename_i u kvs e
      split at h
      · rename_i k ek
        have := keyD_of sy ek
        subst this
        split at h
        · rename_i d ed
          have sx : x = .ref (g.θ l) ∧ l < g.n := sx
          obtain ⟨rfl, _⟩ := sx
          obtain ⟨c1, od, vs, rfl, c2⟩ := R.cell l _ e
          obtain ⟨v, q1, q2⟩ := (shrK_get c2).1 d ed
          exact .inr ⟨_, v, rfl, by rw [← q1]; exact .inl ⟨vs, kD k, .inr ⟨od, c1⟩, rfl, rfl⟩, Post.fin R q2 h⟩
        · exact h.elim
      · exact h.elim
    · exact s_ix g H O R _ b x y sx sy σ Q h
  · exact s_ix g H O R _ b x y sx sy σ Q h
theorem d_ixL {a b : Expr} {fa fb : DE0} (hK : X.K = C.K) (hu : X.A.units + 1 < cLine) (ha : DE C X W a fa) (hb : DE C X W b fb) (hs : PlainIx b := by exact fun _ _ => rfl) : DE C X W (.Subscript a b pos) (op2 ixLD fa fb) :=
  let ⟨_, pa, sa⟩ := ha.ex; let ⟨_, pb, sb⟩ := hb.ex; ⟨_, pe_ix (ix_all hu) pa pb hs, sat_op (by rw [hK]; exact s_ixL) sa sb⟩
def listKF (m : Bool) : List D → Sto → ER := fun ds O => match ds with
  | [d] => (match dicOf d O with | some (_, kvs) => mkL m (keysL kvs) O | none => .bad)
  | _ => .bad
theorem shrK_keysL {K : PySem.W.Frag} {g : G} : ∀ {kvs : List (DKey × D)} {vs : List (Key × V)}, ShrK K g kvs vs → ShrL K g (keysL kvs) (vs.map fun kv => kV kv.1)
  | [], vs, h => by simp only [ShrK] at h; subst h; simp [keysL, ShrL]
  | p :: kvs, vs, h => by
    simp only [ShrK] at h
    obtain ⟨v', r, rfl, s2, h3⟩ := h
    simp only [keysL, List.map_cons, ShrL]
    refine ⟨_, _, rfl, ?_, shrK_keysL h3⟩
    cases p.1 with
    | inl i => rfl
    | inr x => rfl
theorem s_listK (m : Bool) : SatC C W (fun xs H Q => ∃ (a : Addr) (kvs : List (Key × V)), xs = [.ref a] ∧ Rd H a (.dK kvs) ∧ ∀ p, H p = none → Q (.ref p) (upd H p (.lst (kvs.map fun kv => kV kv.1)))) (listKF m) := by
  intro g H O R ds vs s σ Q h
  unfold listKF at h
  split at h
  · rename_i d
    obtain ⟨v, rfl, sv⟩ := shrL_one s
    split at h
    · rename_i l kvs eq
      obtain ⟨rfl, _, _, ws, h2, h3⟩ := dicOf_of R sv eq
      exact ⟨_, ws, rfl, .inl h2, fun p hp => new_lst R (shrK_keysL h3) h hp⟩
    · exact h.elim
  · exact h.elim
theorem e_listK {es : List Expr} {fas : Rho → Sto → Res (List D)} (m : Bool) (hK : X.K = C.K) (hc : X.calm = true) (hm : X.mg "list" = none) (hg : Gl X "list") (ha : DA C X W (e :: es) fas)
    (he : starEach (e :: es) X.env = (false, eval e X.env) :: starEach es X.env := by rfl) (hpl : (backTo pos (starEach es X.env)).any (·.1) = false := by rfl) : DE C X W (.Call (.Name "list" p) (e :: es) [] pos) (callE (listKF m) fas) :=
  d_callTy (call_listD hc) (s_listK m) hg hm (by decide +kernel) ha (by decide) (by decide) he hpl
end
end Dn
set_option Elab.async false
set_option linter.all false
set_option maxRecDepth 100000
set_option maxHeartbeats 4000000
namespace Dn
open PySem PySem.Spec PyProof.Rows L2
section
variable {C : Ctx} {X : Cx} {W : WX} {a o e b : Expr} {es : List Expr} {fa fo fe fb : DE0} {fas : Rho → Sto → Res (List D)} {p pos apos p1 p2 c0 c1 c2 : Pos} {lo hi : Option Expr} {j k : Nat}
def pickG {α : Type} (xs : List α) (lo hi : Option Int) (k : Int) : List α :=
  (sliceRange (sliceBounds lo hi (some k) xs.length).1 (sliceBounds lo hi (some k) xs.length).2.1 (sliceBounds lo hi (some k) xs.length).2.2).filterMap (xs[·]?)
def slKE (m : Bool) (f : DE0) (l h : Rho → Sto → Res (Option Int)) (k : Int) : DE0 := fun r O => (f r O).bind fun d O1 => (l r O1).bind fun lo O2 => (h r O2).bind fun hi O3 => match listR d O3 with | some ds => mkL m (pickG ds lo hi k) O3 | none => .bad
@[simp] theorem ev_slKE (m : Bool) (f : DE0) (l h : Rho → Sto → Res (Option Int)) (k : Int) (r : Rho) (O : Sto) : slKE m f l h k r O = (f r O).bind fun d O1 => (l r O1).bind fun lo O2 => (h r O2).bind fun hi O3 => match listR d O3 with | some ds => mkL m (pickG ds lo hi k) O3 | none => .bad := rfl
end
end Dn
namespace Dn
open PySem PySem.Spec PyProof.Rows L2
end Dn
set_option Elab.async false
set_option linter.all false
set_option maxRecDepth 100000
set_option maxHeartbeats 4000000
namespace Lk06
open Dn PySem
end Lk06
set_option linter.all false
set_option maxRecDepth 100000
set_option maxHeartbeats 4000000
namespace Lk06
open Dn PySem
theorem idx_or : ∀ O, indexF (.lst [.str [111, 114], .str [97, 110, 100]]) [.str [111, 114]] O = .ok (.int 0) O := fun O => by simp [indexF, listR, listS, flatD, idxL, eqv]
theorem idx_and : ∀ O, indexF (.lst [.str [111, 114], .str [97, 110, 100]]) [.str [97, 110, 100]] O = .ok (.int 1) O := fun O => by simp [indexF, listR, listS, flatD, idxL, eqv]
end Lk06
set_option Elab.async false
set_option linter.all false
set_option maxRecDepth 100000
set_option maxHeartbeats 4000000
namespace Lk08
open Dn PySem
end Lk08
set_option linter.all false
set_option maxRecDepth 100000
set_option maxHeartbeats 4000000
namespace Lk08
open Dn PySem
structure Pw (n : Nat) (ps : List Part) : Prop where
  l : ps.length ≤ n
  w : wf false ps
  k : ∀ p ∈ ps, pok p
abbrev env (d : D) (ps : List Part) (c : Int) (x3 x4 x5 x6 : Option D) : Rho := [some d, some (.tup (ps.map partD)), some (.int c), x3, x4, x5, x6]
end Lk08
set_option Elab.async false
set_option linter.all false
set_option maxRecDepth 100000
set_option maxHeartbeats 4000000
namespace Lk10
open Dn PySem
end Lk10
set_option linter.all false
set_option maxRecDepth 100000
set_option maxHeartbeats 4000000
namespace Lk10
open Dn PySem
structure Pk (k : Nat) (ps : List Part) : Prop where
  s : Sz k ps
  f : ∀ p ∈ ps, isT p = false → pok p
theorem Pk.with {k : Nat} {ps : List Part} (P : Pk k ps) (c : Nat) {m : Nat} (hm : k + 1 ≤ m) : Pk m (withT ps [c]) := by
  refine ⟨P.s.with c hm, fun p hp ht => ?_⟩
  rcases List.eq_nil_or_concat ps with rfl | ⟨a, q, rfl⟩
  · simp [withT] at hp; subst hp; simp [isT] at ht
  · rw [List.concat_eq_append] at P hp
    cases q with
    | txt y =>
      rw [withT_txt] at hp
      rcases List.mem_append.mp hp with h | h
      · exact P.f p (by simp [h]) ht
      · simp at h; subst h; simp [isT] at ht
    | fld w k' n =>
      have e : withT (a ++ [.fld w k' n]) [c] = a ++ [.fld w k' n] ++ [.txt [c]] := withT_no (by simp [lastT, isT]) _
      rw [e] at hp
      rcases List.mem_append.mp hp with h | h
      · exact P.f p h ht
      · simp at h; subst h; simp [isT] at ht
theorem Pk.mono {k m : Nat} {ps : List Part} (P : Pk k ps) (h : k ≤ m) : Pk m ps := ⟨⟨by have := P.s.l; omega, fun x hx => by have := P.s.t x hx; omega⟩, P.f⟩
theorem rdP_pk : ∀ (n : Nat) (s : Tx) (i k : Nat) (ps ps' : List Part), rdP n s i ps = .ok ps' → Pk k ps → Pk (k + s.length) ps' := by
  intro n
  induction n with
  | zero => intro s i k ps ps' h P; simp only [rdP] at h; cases h; exact P.mono (by omega)
  | succ n ih =>
    intro s i k ps ps' h P
    cases s with
    | nil => simp only [rdP] at h; cases h; exact P.mono (by omega)
    | cons c r =>
      by_cases hb : c = 123 ∨ c = 125
      · by_cases hh : r.head? = some c
        · obtain ⟨r2, rfl⟩ : ∃ r2, r = c :: r2 := by
            cases r with
            | nil => simp at hh
            | cons d r2 => simp at hh; exact ⟨r2, by rw [hh]⟩
          have e : rdP (n + 1) (c :: c :: r2) i ps = rdP n r2 (i + 2) (withT ps [c]) := by simp [rdP, hb]
          rw [e] at h
          exact (ih r2 _ (k + 1) _ _ h (P.with c (Nat.le_refl _))).mono (by simp; omega)
        · rcases hb with rfl | rfl
          · rw [rdP_open _ _ _ _ hh] at h
            cases q : splitB r with
            | none => rw [q] at h; cases h
            | some wt =>
              obtain ⟨w, t⟩ := wt
              rw [q] at h
              simp only at h
              cases qf : fieldP w with
              | none => rw [qf] at h; cases h
              | some p =>
                rw [qf] at h
                simp only at h
                obtain ⟨rfl, _⟩ := splitB_some q
                obtain ⟨w', k', n', rfl, hp, _⟩ := fieldP_some qf
                refine (ih t _ (k + 1) _ _ h ⟨P.s.fld rfl (Nat.le_refl _), fun p' hp' ht => ?_⟩).mono (by simp; omega)
                rcases List.mem_append.mp hp' with h | h
                · exact P.f p' h ht
                · simp at h; subst h; exact hp
          · have e : rdP (n + 1) (125 :: r) i ps = .error i := by simp [rdP, hh]
            rw [e] at h; cases h
      · have hb' := not_or.mp hb
        have e : rdP (n + 1) (c :: r) i ps = rdP n r (i + 1) (withT ps [c]) := by simp [rdP, hb'.1, hb'.2]
        rw [e] at h
        exact (ih r _ (k + 1) _ _ h (P.with c (Nat.le_refl _))).mono (by simp; omega)
theorem lpt_bound {m l : Nat} {name words : Tx} (R : Rs m l name words) {k : Nat} {ps : List Part} (P : Pk k ps) {p : Part} (hp : p ∈ ps) : (lpt m l name words p).length ≤ k + 1040 := by
  cases p with
  | txt x => have := P.s.t x hp; show x.length ≤ _; omega
  | fld w k' n => have := lpt_len R (P.f _ hp rfl); omega
theorem lay_bound {m l : Nat} {name words : Tx} (R : Rs m l name words) {k : Nat} : ∀ {ps : List Part}, (∀ p ∈ ps, (lpt m l name words p).length ≤ k + 1040) → ((ps.map (lpt m l name words)).map (·.length)).sum ≤ (k + 1040) * ps.length
  | [], _ => by simp
  | p :: ps, h => by
    have h1 := h p (by simp)
    have h2 := lay_bound R (k := k) (ps := ps) fun q hq => h q (by simp [hq])
    simp only [List.map_cons, List.sum_cons, List.length_cons, Nat.mul_add, Nat.mul_one]; omega
theorem laid_any {m l : Nat} {name words : Tx} (R : Rs m l name words) (T : Tx) (hT : T.length ≤ 400) (O : Sto) :
    match rdP T.length T 0 [] with
    | .ok ps => closeFn Lib.fn_laid [.str T, recD m l name words] O = .ok (.str (lay m l name words ps)) O
    | .error a => closeFn Lib.fn_laid [.str T, recD m l name words] O = .exc (atE a) O := by
  have hs : sizeLine = 16777216 := sizeLine_nat
  have er := read_form_any T hT []
  cases q : rdP T.length T 0 [] with
  | error a =>
    rw [q] at er
    refine close_exc (O' := []) rfl ?_ rfl
    simp [Lib.fn_laid, runFn_eq, Lib.B_laid, tyStr, er]
  | ok ps =>
    rw [q] at er
    obtain ⟨_, er⟩ := er
    have P : Pk (0 + T.length) ps := rdP_pk _ _ _ 0 _ _ q ⟨⟨by simp, by simp⟩, by simp⟩
    have hpl := P.s.l
    have hb := fun p hp => lpt_bound R P (p := p) hp
    have hsum := lay_bound R (k := 0 + T.length) hb
    have hsum2 : ((ps.map (lpt m l name words)).map (·.length)).sum ≤ 1000000 := Nat.le_trans hsum (by
      have : (0 + T.length + 1040) * ps.length ≤ 1440 * 400 := Nat.mul_le_mul (by omega) (by omega)
      omega)
    refine close_ok (O' := []) rfl ?_ rfl
    have lc := lcL_map (t := nameG 2) (el := fnE 2 (closeFn Lib.fn_laid_part) (consA (varE 2) (consA (varE 1) nilA))) (st := []) (r := [some (.str T), some (recD m l name words), none]) (O := []) partD (fun p => D.str (lpt m l name words p)) rfl ps []
      (fun p hpm => ⟨_, rfl, by
        have e : closeFn Lib.fn_laid_part [partD p, recD m l name words] [] = .ok (.str (lpt m l name words p)) [] := by
          cases p with
          | txt x => exact close_ok (O' := []) (by rfl) (by simp [Lib.fn_laid_part, runFn_eq, Lib.B_laid_part, partD, lpt]) rfl
          | fld w k n => exact laid_part_ok R (P.f _ hpm rfl) []
        simp [e]⟩) (by rw [hs]; simp; omega)
    rw [List.nil_append, show (fun p => D.str (lpt m l name words p)) = D.str ∘ lpt m l name words from rfl, ← List.map_map] at lc
    have hj := join_lst [] (ps.map (lpt m l name words)) [] (by simp only [List.length_nil, Nat.mul_zero, Nat.add_zero]; exact Nat.le_trans hsum2 (by omega))
    rw [join_nil] at hj
    unfold lay
    generalize ps.map partD = PD at er lc
    generalize (ps.map (lpt m l name words)).flatten = F at hj ⊢
    generalize (ps.map (lpt m l name words)).map D.str = L at lc hj
    have hB : Lib.B_laid [some (.str T), some (recD m l name words), none] [] = .ret (.str F) [] := by
      simp [Lib.B_laid, tyStr, er, wipeR, lc, hj]
    simp [Lib.fn_laid, runFn_eq, hB]
def outL (m l : Nat) (name words : Tx) : Except Nat (List Part) → D
  | .ok ps => .tup [.str [108, 97, 105, 100], .str (lay m l name words ps)]
  | .error a => .tup [.str [98, 97, 100], .int (a : Int)]
theorem noOb_outL (m l : Nat) (name words : Tx) (e : Except Nat (List Part)) : noOb (outL m l name words e) = true := by cases e <;> simp [outL, noOb, noObL]
theorem forL_go {t : TG0} {b : DS0} {d : D} {ds : List D} {r r1 r2 : Rho} {O O1 O2 : Sto} {x : SR} (h : t d r O = some (r1, O1)) (hb : b r1 O1 = .nx r2 O2 ∨ b r1 O1 = .ct r2 O2) (k : forL t b [] ds r2 O2 = x) : forL t b [] (d :: ds) r O = x := by
  unfold forL
  rw [if_pos (by rfl), h]
  rcases hb with e | e
  · simp only [e]; exact k
  · simp only [e]; exact k
abbrev env (ns : List Int) (x1 x2 x3 x4 x5 x6 : Option D) : Rho := [some (.scr (ns.map D.int)), x1, x2, x3, x4, x5, x6]
end Lk10
set_option linter.all false
set_option maxRecDepth 100000
set_option maxHeartbeats 4000000
namespace Dn
open PySem Lib LibC
theorem readg_ok {g : Gate} (hf : gfin g = true) (hz : gsz g ≤ 29) (O : Sto) : closeFn Lib.fn_read_gate [.str (gt g)] O = .ok (gateD g) O := by
  have hdp := dp_sz g
  have hdpl := dpW_le 2 (strg g) (dp g)
  have hgl := gt_len g hf
  exact read_gate_lex (lex_gate g hf) (by omega) (gate_any hf (by omega) 100 0 (by omega) (by omega) (by omega)) (noOb_gate g) O
end Dn
set_option linter.all false
set_option maxRecDepth 100000
set_option maxHeartbeats 4000000
namespace Dn
open PySem Lib
structure Wr where
  nm : Tx
  ls : Nat
  g : Gate
  f : Tx
  ps : List Part
structure WrOk (w : Wr) : Prop where
  nm : Nm w.nm
  ls : w.ls < 100
  gf : gfin w.g = true
  gz : gsz w.g ≤ 29
  fl : w.f.length ≤ 300
  rd : rdP w.f.length w.f 0 [] = .ok w.ps
def wC (w : Wr) (t : Nat) : Cell := .ins 4 [(12, .str w.nm), (13, .int w.ls), (14, gateD w.g), (15, .str w.f), (6, .ob t)]
def hC (l c w n : Nat) (s : Int) : Cell := .ins 5 [(16, .ob l), (17, .ob c), (18, .ob w), (0, .int n), (19, .int s)]
theorem get_app {O : Sto} {i : Nat} {c : Cell} (h : O[i]? = some c) (J : Sto) : (O ++ J)[i]? = some c := by
  rw [List.getElem?_append_left (List.getElem?_eq_some_iff.mp h).1]; exact h
section
variable {h l c w b : Nat} {s : Int} {M : Tx → Option Nat} {Cl : Tx → Bool} {ws : List Wr} {rs : List (List Tx)} {O : Sto}
theorem a512 : att 4 12 = true := by decide
theorem a413 : att 4 13 = true := by decide
theorem a414 : att 4 14 = true := by decide
theorem a415 : att 4 15 = true := by decide
theorem a406 : att 4 6 = true := by decide
theorem a516 : att 5 16 = true := by decide
theorem a517 : att 5 17 = true := by decide
theorem a518 : att 5 18 = true := by decide
theorem a500 : att 5 0 = true := by decide
theorem a519 : att 5 19 = true := by decide
def tk (l : Nat) (name words : Tx) (w : Wr) : Bool := decide (w.ls ≤ l) && gev l name words w.g
def waysL (Cl : Tx → Bool) : List Tx → List Tx
  | [] => []
  | a :: r => a :: if Cl a then [] else waysL Cl r
theorem ways_loop {L : List (DKey × D)} (h1 : O[h]? = some (hC l c w ws.length s)) (h2 : O[c]? = some (.dic L)) (h3 : ∀ k, (getK L (.inr k)).getD (.bl false) = .bl (Cl k)) (x1 : Option D) : ∀ (xs acc : List Tx) (x3 : Option D), acc.length + xs.length ≤ 10000 →
    (∃ y3, forL (nameG 3) Q_Hall_ways_1 [] (xs.map D.str) [some (.ob h), x1, some (.tup (acc.map D.str)), x3] O = .nx [some (.ob h), x1, some (.tup ((acc ++ waysL Cl xs).map D.str)), y3] O) ∨
    forL (nameG 3) Q_Hall_ways_1 [] (xs.map D.str) [some (.ob h), x1, some (.tup (acc.map D.str)), x3] O = .ret (.tup ((acc ++ waysL Cl xs).map D.str)) O
  | [], acc, x3, _ => .inl ⟨x3, by simp [forL, stillOk, waysL]⟩
  | x :: xs, acc, x3, hl => by
    have hs : sizeLine = 16777216 := sizeLine_nat
    have h1' : O[h]? = some (.ins 5 [(16, .ob l), (17, .ob c), (18, .ob w), (0, .int ws.length), (19, .int s)]) := h1
    have ad : ∀ O, addD false (.tup (acc.map D.str)) (.tup [.str x]) O = .ok (.tup ((acc ++ [x]).map D.str)) O := fun O => by
      simp [addD, hs]; simp at hl; omega
    have ge : ∀ r, getE2 (fldE att 17 (varE 0)) (varE 3) (constE (.bl false)) [some (.ob h), x1, r, some (.str x)] O = .ok (.bl (Cl x)) O := fun r => by
      have := h3 x
      simp [getE2, h1', getFD, a517, get2D, tyDic, dicOf, h2, keyD, this]
    have st : ∀ r, nameG 3 (.str x) [some (.ob h), x1, r, x3] O = some ([some (.ob h), x1, r, some (.str x)], O) := fun r => rfl
    cases q : Cl x with
    | true =>
      refine .inr ?_
      have e : Q_Hall_ways_1 [some (.ob h), x1, some (.tup (acc.map D.str)), some (.str x)] O = .ret (.tup ((acc ++ [x]).map D.str)) O := by
        rw [q] at ge
        unfold Q_Hall_ways_1
        refine cs_nx (r1 := [some (.ob h), x1, some (.tup ((acc ++ [x]).map D.str)), some (.str x)]) (O1 := O) (by simp [-List.map_append, ad, hs]) ?_
        exact if_t (O1 := O) (by simp [ge]) (by simp)
      rw [List.map_cons]
      unfold forL
      simp only [still_nil, if_true, st, e]
      simp [waysL, q]
    | false =>
      have e : Q_Hall_ways_1 [some (.ob h), x1, some (.tup (acc.map D.str)), some (.str x)] O = .nx [some (.ob h), x1, some (.tup ((acc ++ [x]).map D.str)), some (.str x)] O := by
        rw [q] at ge
        unfold Q_Hall_ways_1
        refine cs_nx (r1 := [some (.ob h), x1, some (.tup ((acc ++ [x]).map D.str)), some (.str x)]) (O1 := O) (by simp [-List.map_append, ad, hs]) ?_
        exact if_f (O1 := O) (by simp [ge]) rfl
      have hw : acc ++ waysL Cl (x :: xs) = (acc ++ [x]) ++ waysL Cl xs := by simp [waysL, q]
      rw [hw, List.map_cons]
      rcases ways_loop h1 h2 h3 x1 xs (acc ++ [x]) (some (.str x)) (by simp at hl ⊢; omega) with ⟨y3, k⟩ | k
      · refine .inl ⟨y3, ?_⟩
        unfold forL
        simp only [still_nil, if_true, st, e]
        exact k
      · refine .inr ?_
        unfold forL
        simp only [still_nil, if_true, st, e]
        exact k
def pk (lv : Nat) (name words nm : Tx) (ws : List Wr) (i : Nat) : Bool := match ws[i]? with | some x => (x.nm == nm) && tk lv name words x | none => false
theorem waysL_len (Cl : Tx → Bool) : ∀ xs : List Tx, (waysL Cl xs).length ≤ xs.length
  | [] => Nat.le_refl _
  | a :: r => by
    have := waysL_len Cl r
    simp only [waysL, List.length_cons]; split <;> simp <;> omega
theorem waysL_sub (Cl : Tx → Bool) : ∀ (xs : List Tx), ∀ x ∈ waysL Cl xs, x ∈ xs
  | [], x, h => h
  | a :: r, x, h => by
    simp only [waysL, List.mem_cons] at h
    rcases h with h | h
    · simp [h]
    · split at h
      · cases h
      · exact List.mem_cons_of_mem _ (waysL_sub Cl r x h)
theorem ups_len (ps : List (List Nat)) : ∀ n, (ups ps n).length = n := fun n => by
  induction n with
  | zero => rfl
  | succ n ih => simp [ups, ih]
theorem above_len6 {x : Tx} (hx : Nm x) : (above x).length ≤ 6 := by
  unfold above
  split
  · simp
  · rename_i h
    rw [ups_len]
    rcases hx with rfl | ⟨_, h2, _⟩
    · exact absurd rfl h
    · exact h2
theorem winit_ok (O : Sto) (nm f : Tx) (ls : Nat) (gd : D) : fn_Writer_init [.ob O.length, .str nm, .int ls, gd, .str f] (O ++ [.ins 4 []]) = .ok .non (O ++ [.ins 4 [(12, .str nm), (13, .int ls), (14, gd), (15, .str f), (6, .ob (O.length + 1))], .lst []]) := by
  simp [fn_Writer_init, runFn_eq, B_Writer_init, att, putFD]
theorem getK_putN (k k' : DKey) (d : D) : ∀ kvs : List (DKey × D), getK (putD kvs k d) k' = if k' = k then some d else getK kvs k' := by
  have hm : ∀ kvs : List (DKey × D), getK (kvs.map fun p => if p.1 = k then (p.1, d) else p) k' = if k' = k then (if kvs.any (fun p => decide (p.1 = k)) then some d else none) else getK kvs k' := by
    intro kvs
    induction kvs with
    | nil => simp [getK]
    | cons p kvs ih =>
      simp only [getK, List.map_cons, List.find?_cons] at ih ⊢
      by_cases h1 : p.1 = k
      · by_cases h2 : k' = k
        · subst h2; simp [h1]
        · have h3 : ¬ p.1 = k' := fun z => h2 (by rw [← z, h1])
          have h4 : ¬ k = k' := fun z => h2 z.symm
          simp only [h1, h2, h4, if_true, if_false, decide_false, List.any_cons] at ih ⊢
          simpa [h1, h2, h3, h4] using ih
      · by_cases h2 : k' = k
        · subst h2
          simp only [h1, if_false, decide_false, List.any_cons, if_true, Bool.false_or] at ih ⊢
          simpa using ih
        · simp only [h1, h2, if_false] at ih ⊢
          by_cases h3 : p.1 = k'
          · simp [h3]
          · simpa [h3] using ih
  intro kvs
  unfold putD
  split
  · rename_i h
    rw [hm, h]; simp
  · rename_i h
    by_cases h2 : k' = k
    · subst h2
      have hn : kvs.find? (fun p => decide (p.1 = k')) = none := by
        rw [List.find?_eq_none]
        intro p hp z
        exact h (List.any_eq_true.mpr ⟨p, hp, z⟩)
      simp [getK, List.find?_append, hn]
    · have h4 : ¬ k = k' := fun z => h2 z.symm
      simp [getK, List.find?_append, h2, h4]
theorem put_lenN (k : DKey) (d : D) (kvs : List (DKey × D)) : (putD kvs k d).length ≤ kvs.length + 1 := by
  unfold putD; split <;> simp
def M0 : Tx → Option Nat := fun k => if k = [] then some 30 else none
theorem run_ret3 {n : Nat} {B : DS0} {ds : List D} {O O' : Sto} {r : Rho} (h : B (ds.map some ++ List.replicate (n - ds.length) none) O = .nx r O') : runFn n B ds O = .ok .non O' := by
  rw [runFn_eq, h]
theorem dic1_ok (a : Tx) (v : D) (r : Rho) (O : Sto) : dicE (consP (constE (.str a)) (constE v) nilP) r O = .ok (.ob O.length) (O ++ [.dic [(.inr a, v)]]) := by
  simp [dicE, consP, nilP, keysD, keyD, isDic0, mergeD, putD]
theorem hinit_ok (O : Sto) : fn_Hall_init [.ob O.length] (O ++ [.ins 5 []]) = .ok .non (O ++ [hC (O.length + 1) (O.length + 2) (O.length + 3) 0 0, .dic [(.inr [], .int 30)], .dic [], .dic []]) := by
  have e := dic1_ok [] (.int 30) [some (.ob O.length)] (O ++ [.ins 5 []])
  refine run_ret3 (r := [some (.ob O.length)]) ?_
  show B_Hall_init [some (.ob O.length)] (O ++ [.ins 5 []]) = .nx [some (.ob O.length)] _
  unfold B_Hall_init
  refine cs_nx (r1 := [some (.ob O.length)]) (O1 := O ++ [.ins 5 [(16, .ob (O.length + 1))], .dic [(.inr [], .int 30)]]) ?_ ?_
  · have e' : dicE (consP (constE (.str [])) (constE c_TOP_LEVEL) nilP) [some (.ob O.length)] (O ++ [.ins 5 []]) = .ok (.ob (O.length + 1)) (O ++ [.ins 5 [], .dic [(.inr [], .int 30)]]) := by
      rw [show c_TOP_LEVEL = D.int 30 from rfl, e]; simp
    rw [ev_fldS, e', bindS_ok']
    simp [a516, putFD]
  · simp [a517, a518, a500, a519, putFD, dic0E, hC]
end
end Dn
set_option linter.all false
set_option maxRecDepth 100000
set_option maxHeartbeats 4000000
namespace Dn
open PySem Lib
structure En where
  k : Nat
  p : Nat
  t : Nat
  x : Wr
  r : List Tx
structure Hd where
  h : Nat
  l : Nat
  c : Nat
  w : Nat
  n : Nat
  s : Int
  M : Tx → Option Nat
  Cl : Tx → Bool
  es : List En
def wrB (es : List En) : List (DKey × D) := es.map fun e => (.inl (e.k : Int), .ob e.p)
def itB (e : En) : D := .tup [.int (e.k : Int), .ob e.p]
def Hd.own (X : Hd) : List Nat := X.h :: X.l :: X.c :: X.w :: (X.es.map (·.p) ++ X.es.map (·.t))
structure HB (bd : Nat) (X : Hd) (O : Sto) : Prop where
  h : O[X.h]? = some (hC X.l X.c X.w X.n X.s)
  lv : ∃ L, O[X.l]? = some (.dic L) ∧ L.length ≤ bd ∧ ∀ k, getK L (.inr k) = (X.M k).map fun n : Nat => D.int n
  cl : ∃ L, O[X.c]? = some (.dic L) ∧ L.length ≤ bd ∧ ∀ k, (getK L (.inr k)).getD (.bl false) = .bl (X.Cl k)
  wr : O[X.w]? = some (.dic (wrB X.es))
  wa : ∀ e ∈ X.es, O[e.p]? = some (wC e.x e.t)
  ta : ∀ e ∈ X.es, O[e.t]? = some (.lst (e.r.map D.str))
  inc : X.es.Pairwise fun a b => a.k < b.k
  kn : ∀ e ∈ X.es, 1 ≤ e.k ∧ e.k ≤ X.n
  td : X.es.Pairwise fun a b => a.t ≠ b.t
  wl : X.n ≤ 100
  lw : X.l ≠ X.w
  cw : X.c ≠ X.w
  lc : X.l ≠ X.c
theorem wrB_len (es : List En) : (wrB es).length = es.length := by simp [wrB]
theorem inc_len : ∀ {es : List En} {m n : Nat}, es.Pairwise (fun a b => a.k < b.k) → (∀ e ∈ es, m < e.k ∧ e.k ≤ n) → es.length + m ≤ n ∨ es = []
  | [], _, _, _, _ => .inr rfl
  | a :: es, m, n, h, hk => by
    rw [List.pairwise_cons] at h
    have ha := hk a (by simp)
    rcases inc_len (m := a.k) (n := n) h.2 (fun e he => ⟨h.1 e he, (hk e (by simp [he])).2⟩) with q | q
    · left; simp; omega
    · subst q; left; simp; omega
theorem HB.el {bd : Nat} {X : Hd} {O : Sto} (A : HB bd X O) : X.es.length ≤ X.n := by
  rcases inc_len (m := 0) (n := X.n) A.inc (fun e he => ⟨by have := A.kn e he; omega, (A.kn e he).2⟩) with q | q
  · omega
  · rw [q]; simp
theorem wrB_none {es : List En} {k : Nat} (h : ∀ e ∈ es, e.k ≠ k) : getK (wrB es) (.inl (k : Int)) = none := by
  unfold getK wrB
  rw [List.find?_map, Option.map_map]
  have : es.find? ((fun p : DKey × D => decide (p.1 = .inl (k : Int))) ∘ fun e => (.inl (e.k : Int), .ob e.p)) = none := by
    rw [List.find?_eq_none]
    intro e he z
    simp only [Function.comp, decide_eq_true_eq] at z
    injection z with z
    exact h e he (by omega)
  rw [this]; rfl
theorem wrB_at : ∀ {es : List En} {e : En}, es.Pairwise (fun a b => a.k < b.k) → e ∈ es → getK (wrB es) (.inl (e.k : Int)) = some (.ob e.p)
  | [], e, _, h => by cases h
  | a :: es, e, hp, h => by
    rw [List.pairwise_cons] at hp
    rcases List.mem_cons.mp h with rfl | h
    · simp [getK, wrB]
    · have : a.k < e.k := hp.1 e h
      have ih := wrB_at hp.2 h
      have hne : ¬ ((Sum.inl (a.k : Int) : DKey) = .inl (e.k : Int)) := fun z => by injection z with z; omega
      unfold getK wrB at ih ⊢
      rw [List.map_cons, List.find?_cons_of_neg (by simpa using fun z : (a.k : Int) = (e.k : Int) => by omega)]
      exact ih
/-- cells that stay: all but some -/
structure Fr (T : List Nat) (O O' : Sto) : Prop where
  len : O.length ≤ O'.length
  at' : ∀ (i : Nat) c, O[i]? = some c → i ∉ T → O'[i]? = some c
theorem Fr.refl (T : List Nat) (O : Sto) : Fr T O O := ⟨Nat.le_refl _, fun _ _ h _ => h⟩
theorem Fr.trans {T : List Nat} {O O' O'' : Sto} (a : Fr T O O') (b : Fr T O' O'') : Fr T O O'' := ⟨Nat.le_trans a.len b.len, fun i c h q => b.at' i c (a.at' i c h q) q⟩
theorem Fr.mono {T T' : List Nat} {O O' : Sto} (a : Fr T O O') (h : ∀ i ∈ T, i ∈ T') : Fr T' O O' := ⟨a.len, fun i c q z => a.at' i c q fun y => z (h i y)⟩
theorem Fr.app (T : List Nat) (O J : Sto) : Fr T O (O ++ J) := ⟨by simp, fun i c h _ => get_app h J⟩
theorem Fr.set (O : Sto) (i : Nat) (c : Cell) : Fr [i] O (O.set i c) := ⟨by simp, fun j d h q => by rw [List.getElem?_set_ne (fun z => q (by simp [z]))]; exact h⟩
theorem HB.fr {bd : Nat} {X : Hd} {O O' : Sto} {T : List Nat} (A : HB bd X O) (F : Fr T O O') (hd : ∀ i ∈ X.own, i ∉ T) : HB bd X O' := by
  have o1 : X.h ∈ X.own := by simp [Hd.own]
  have o2 : X.l ∈ X.own := by simp [Hd.own]
  have o3 : X.c ∈ X.own := by simp [Hd.own]
  have o4 : X.w ∈ X.own := by simp [Hd.own]
  have o5 : ∀ e ∈ X.es, e.p ∈ X.own := fun e he => by
    simp only [Hd.own, List.mem_cons, List.mem_append, List.mem_map]; exact .inr (.inr (.inr (.inr (.inl ⟨e, he, rfl⟩))))
  have o6 : ∀ e ∈ X.es, e.t ∈ X.own := fun e he => by
    simp only [Hd.own, List.mem_cons, List.mem_append, List.mem_map]; exact .inr (.inr (.inr (.inr (.inr ⟨e, he, rfl⟩))))
  exact ⟨F.at' _ _ A.h (hd _ o1), let ⟨L, h1, h2⟩ := A.lv; ⟨L, F.at' _ _ h1 (hd _ o2), h2⟩, let ⟨L, h1, h2⟩ := A.cl; ⟨L, F.at' _ _ h1 (hd _ o3), h2⟩, F.at' _ _ A.wr (hd _ o4),
    fun e he => F.at' _ _ (A.wa e he) (hd _ (o5 e he)), fun e he => F.at' _ _ (A.ta e he) (hd _ (o6 e he)), A.inc, A.kn, A.td, A.wl, A.lw, A.cw, A.lc⟩
theorem HB.lt {bd : Nat} {X : Hd} {O : Sto} (A : HB bd X O) : ∀ i ∈ X.own, i < O.length := by
  have lt : ∀ {i : Nat} {c : Cell}, O[i]? = some c → i < O.length := fun h => (List.getElem?_eq_some_iff.mp h).1
  intro i hi
  simp only [Hd.own, List.mem_cons, List.mem_append, List.mem_map] at hi
  rcases hi with rfl | rfl | rfl | rfl | ⟨e, he, rfl⟩ | ⟨e, he, rfl⟩
  · exact lt A.h
  · obtain ⟨L, h, _⟩ := A.lv; exact lt h
  · obtain ⟨L, h, _⟩ := A.cl; exact lt h
  · exact lt A.wr
  · exact lt (A.wa e he)
  · exact lt (A.ta e he)
theorem HB.app {bd : Nat} {X : Hd} {O : Sto} (A : HB bd X O) (J : Sto) : HB bd X (O ++ J) := A.fr (T := []) (Fr.app [] O J) (by simp)
theorem take_okB {m lv : Nat} {name words : Tx} (R : Rs m lv name words) {x : Wr} (W : WrOk x) {O : Sto} {i t : Nat} {r : List Tx} (hr : r.length ≤ 1000000) (h1 : O[i]? = some (wC x t)) (h2 : O[t]? = some (.lst (r.map D.str))) :
    fn_Writer_take [.ob i, recD m lv name words] O = if tk lv name words x then .ok (.bl true) (O.set t (.lst ((r ++ [lay m lv name words x.ps]).map D.str))) else .ok (.bl false) O := by
  have hs : sizeLine = 16777216 := sizeLine_nat
  have hnl := R.n
  have hwl := R.w
  have hp := passes_ok (m : Int) (lv : Int) name words hnl (by omega) 100 x.g (by have := gdep_lt x.g; have := W.gz; omega) (gok_of x.g W.gf)
  have hl := fun O => Lk10.laid_any R x.f (by have := W.fl; omega) O
  rw [W.rd] at hl
  have hl : ∀ O, closeFn fn_laid [.str x.f, recD m lv name words] O = .ok (.str (lay m lv name words x.ps)) O := hl
  have hp : ∀ O, closeFn (fn_passes 100) [gateD x.g, recD m lv name words] O = .ok (.bl (gev (lv : Int) name words x.g)) O := hp
  have hx1 : ∀ O, ixD (recD m lv name words) (.int 1) O = .ok (.int (lv : Nat)) O := fun O => rfl
  have h1' : O[i]? = some (.ins 4 [(12, .str x.nm), (13, .int x.ls), (14, gateD x.g), (15, .str x.f), (6, .ob t)]) := h1
  have ap : ∀ z : Tx, appendF (.ob t) [.str z] O = .ok .non (O.set t (.lst ((r ++ [z]).map D.str))) := fun z => by
    simp only [appendF, h2]
    rw [if_pos (by rw [List.length_map, hs]; omega)]
    simp
  have tl : tyLst (.ob t) O = true := by simp [tyLst, listR, listS, h2]
  generalize recD m lv name words = RD at *
  generalize lay m lv name words x.ps = T at *
  unfold tk
  by_cases q1 : x.ls ≤ lv
  · cases q2 : gev (lv : Int) name words x.g with
    | true =>
      rw [q2] at hp
      simp [fn_Writer_take, runFn_eq, B_Writer_take, h1', getFD, a413, a414, a415, a406, hx1, hp, hl, ap, tl, q1, show ¬ ((lv : Int) < x.ls) by omega]
    | false =>
      rw [q2] at hp
      simp [fn_Writer_take, runFn_eq, B_Writer_take, h1', getFD, a413, a414, a415, a406, hx1, hp, q1, show ¬ ((lv : Int) < x.ls) by omega]
  · simp [fn_Writer_take, runFn_eq, B_Writer_take, h1', getFD, a413, a414, a415, a406, hx1, q1, show ((lv : Int) < x.ls) by omega]
theorem ways_okB {bd : Nat} {X : Hd} {O : Sto} (A : HB bd X O) (x : Tx) (hx : x.length ≤ 1000) : fn_Hall_ways [.ob X.h, .str x] O = .ok (.tup ((waysL X.Cl (x :: above x)).map D.str)) O := by
  have hs : sizeLine = 16777216 := sizeLine_nat
  obtain ⟨L, h2, _, h3⟩ := A.cl
  have ha := fun O => above_ok x hx O
  have hab := above_short x hx
  have h1 : O[X.h]? = some (hC X.l X.c X.w (List.replicate X.n (⟨[], 0, .yes, [], []⟩ : Wr)).length X.s) := by rw [List.length_replicate]; exact A.h
  have lp := ways_loop (ws := List.replicate X.n (⟨[], 0, .yes, [], []⟩ : Wr)) h1 h2 h3 (some (.str x)) (x :: above x) [] none (by simp; omega)
  simp only [List.nil_append, List.map_nil] at lp
  have hsrc : ∀ r1 r2, seqI (op2 (addD false) (tupE (consA (varE 1) nilA)) (fnE 1 (closeFn fn_above) (consA (varE 1) nilA))) [some (.ob X.h), some (.str x), r1, r2] O = .ok ⟨(x :: above x).map D.str, []⟩ O := fun r1 r2 => by
    simp [ha, hs, show 1 + (above x).length ≤ 16777216 by omega]
  have hB : B_Hall_ways [some (.ob X.h), some (.str x), none, none] O = .ret (.tup ((waysL X.Cl (x :: above x)).map D.str)) O := by
    unfold B_Hall_ways
    refine cs_nx (r1 := [some (.ob X.h), some (.str x), some (.tup []), none]) (O1 := O) (by simp) ?_
    rcases lp with ⟨y3, lp⟩ | lp
    · refine cs_nx (r1 := [some (.ob X.h), some (.str x), some (.tup ((waysL X.Cl (x :: above x)).map D.str)), y3]) (O1 := O) ?_ (by simp)
      rw [ev_forS, hsrc, bindS_ok']; exact lp
    · refine cs_ret ?_
      rw [ev_forS, hsrc, bindS_ok']; exact lp
  exact run_ret2 hB
/-- a writer at a name takes a record -/
def tkB (lv : Nat) (name words nm : Tx) (e : En) : Bool := (e.x.nm == nm) && tk lv name words e.x
def pushB (m lv : Nat) (name words : Tx) (e : En) : En := { e with r := e.r ++ [lay m lv name words e.x.ps] }
def upB (m lv : Nat) (name words nm : Tx) (e : En) : En := if tkB lv name words nm e then pushB m lv name words e else e
theorem upB_k (m lv : Nat) (name words nm : Tx) (e : En) : (upB m lv name words nm e).k = e.k ∧ (upB m lv name words nm e).p = e.p ∧ (upB m lv name words nm e).t = e.t ∧ (upB m lv name words nm e).x = e.x := by
  unfold upB; split <;> exact ⟨rfl, rfl, rfl, rfl⟩
theorem HB.put {bd : Nat} {X : Hd} {pre suf : List En} {e : En} {O : Sto} (A : HB bd { X with es := pre ++ e :: suf } O) (r' : List Tx) : HB bd { X with es := pre ++ { e with r := r' } :: suf } (O.set e.t (.lst (r'.map D.str))) := by
  have he := A.ta e (by simp)
  have hlt : e.t < O.length := (List.getElem?_eq_some_iff.mp he).1
  have ne : ∀ (k : Nat) (d : Cell), O[k]? = some d → (∀ ds, d ≠ .lst ds) → (O.set e.t (.lst (r'.map D.str)))[k]? = some d := fun k d q n => by
    rw [List.getElem?_set_ne (fun z => by rw [← z, he] at q; exact n _ (Option.some.inj q).symm)]; exact q
  have td := A.td
  have td' : (pre ++ e :: suf).Pairwise (fun a b => a.t ≠ b.t) := td
  rw [List.pairwise_append, List.pairwise_cons] at td'
  obtain ⟨t1, ⟨t2, t3⟩, t4⟩ := td'
  have inc' : (pre ++ e :: suf).Pairwise (fun a b => a.k < b.k) := A.inc
  rw [List.pairwise_append, List.pairwise_cons] at inc'
  obtain ⟨u1, ⟨u2, u3⟩, u4⟩ := inc'
  have old : ∀ y, y ∈ pre ∨ y ∈ suf → y ∈ pre ++ e :: suf ∧ y.t ≠ e.t := fun y hy => by
    rcases hy with hy | hy
    · exact ⟨by simp [hy], t4 y hy e (by simp)⟩
    · exact ⟨by simp [hy], (t2 y hy).symm⟩
  have mem : ∀ y, y ∈ pre ++ { e with r := r' } :: suf → y = { e with r := r' } ∨ (y ∈ pre ∨ y ∈ suf) := fun y hy => by
    simp only [List.mem_append, List.mem_cons] at hy
    rcases hy with h | h | h
    · exact .inr (.inl h)
    · exact .inl h
    · exact .inr (.inr h)
  refine ⟨ne _ _ A.h (fun _ z => by cases z), let ⟨L, h1, h2⟩ := A.lv; ⟨L, ne _ _ h1 (fun _ z => by cases z), h2⟩, let ⟨L, h1, h2⟩ := A.cl; ⟨L, ne _ _ h1 (fun _ z => by cases z), h2⟩, ?_, fun y hy => ?_, fun y hy => ?_, ?_, fun y hy => ?_, ?_, A.wl, A.lw, A.cw, A.lc⟩
  · have := ne _ _ A.wr (fun _ z => by cases z)
    simpa [wrB] using this
  · rcases mem y hy with rfl | hy
    · exact ne _ _ (A.wa e (by simp)) (fun _ z => by cases z)
    · exact ne _ _ (A.wa y (old y hy).1) (fun _ z => by cases z)
  · rcases mem y hy with rfl | hy
    · rw [List.getElem?_set_self hlt]
    · rw [List.getElem?_set_ne (fun z => (old y hy).2 z.symm)]
      exact A.ta y (old y hy).1
  · show (pre ++ { e with r := r' } :: suf).Pairwise (fun a b => a.k < b.k)
    rw [List.pairwise_append, List.pairwise_cons]
    refine ⟨u1, ⟨u2, u3⟩, fun a ha b hb => ?_⟩
    rcases List.mem_cons.mp hb with rfl | hb
    · exact u4 a ha e (by simp)
    · exact u4 a ha b (by simp [hb])
  · rcases mem y hy with rfl | hy
    · exact A.kn e (by simp)
    · exact A.kn y (old y hy).1
  · show (pre ++ { e with r := r' } :: suf).Pairwise (fun a b => a.t ≠ b.t)
    rw [List.pairwise_append, List.pairwise_cons]
    refine ⟨t1, ⟨t2, t3⟩, fun a ha b hb => ?_⟩
    rcases List.mem_cons.mp hb with rfl | hb
    · exact t4 a ha e (by simp)
    · exact t4 a ha b (by simp [hb])
abbrev numsB (F : List Nat) : List D := F.map fun (i : Nat) => D.int (i : Int)
abbrev envTB (h : Nat) (rd : D) (F : List Nat) (x3 x4 x5 : Option D) : Rho := [some (.ob h), some rd, some (.tup (numsB F)), x3, x4, x5]
/-- the numbers of those that take at a name -/
def selB (lv : Nat) (name words : Tx) (es : List En) (nm : Tx) : List Nat := (es.filter (tkB lv name words nm)).map (·.k)
theorem selB_len (lv : Nat) (name words : Tx) (es : List En) (nm : Tx) : (selB lv name words es nm).length ≤ es.length := by
  simp only [selB, List.length_map]; exact List.length_filter_le _ _
section
variable {bd : Nat} {X : Hd} {O : Sto}
theorem tell1B {m lv : Nat} {name words : Tx} (R : Rs m lv name words) {pre suf : List En} {e : En} (W : WrOk e.x) (A : HB bd { X with es := pre ++ e :: suf } O) (hr : e.r.length ≤ 1000000) (nm : Tx) (F : List Nat) (hF : F.length ≤ 10000) :
    ∃ O', Q_Hall_tell_1 (envTB X.h (recD m lv name words) F (some (.str nm)) (some (.int e.k)) (some (.ob e.p))) O = .nx (envTB X.h (recD m lv name words) (F ++ selB lv name words [e] nm) (some (.str nm)) (some (.int e.k)) (some (.ob e.p))) O' ∧
      HB bd { X with es := pre ++ upB m lv name words nm e :: suf } O' ∧ Fr [e.t] O O' := by
  have hs : sizeLine = 16777216 := sizeLine_nat
  have c1 := A.wa e (by simp)
  have c2 := A.ta e (by simp)
  have tk0 := take_okB R W hr c1 c2
  have c1' : O[e.p]? = some (.ins 4 [(12, .str e.x.nm), (13, .int e.x.ls), (14, gateD e.x.g), (15, .str e.x.f), (6, .ob e.t)]) := c1
  have hxl := W.nm.len
  have hq : eqD (.str e.x.nm) (.str nm) O = .ok (.bl (e.x.nm == nm)) O := by simp
  have ad : ∀ O, addD false (.tup (numsB F)) (.tup [.int (e.k : Int)]) O = .ok (.tup (numsB (F ++ [e.k]))) O := fun O => by
    simp [addD, hs, numsB]; omega
  have put := A.put (e.r ++ [lay m lv name words e.x.ps])
  generalize recD m lv name words = RD at *
  by_cases q : (e.x.nm == nm) = true
  · cases q2 : tk lv name words e.x with
    | true =>
      rw [q2] at tk0
      simp only [if_true] at tk0
      have hf : selB lv name words [e] nm = [e.k] := by simp [selB, tkB, q, q2]
      have hu : upB m lv name words nm e = { e with r := e.r ++ [lay m lv name words e.x.ps] } := by simp [upB, tkB, q, q2, pushB]
      refine ⟨O.set e.t (.lst ((e.r ++ [lay m lv name words e.x.ps]).map D.str)), ?_, by rw [hu]; exact put, Fr.set _ _ _⟩
      rw [hf]
      unfold Q_Hall_tell_1
      refine if_t (O1 := O.set e.t (.lst ((e.r ++ [lay m lv name words e.x.ps]).map D.str))) ?_ ?_
      · rw [q] at hq
        simp [-List.map_append, c1', getFD, a512, hq, tk0]
      · generalize O.set e.t (.lst ((e.r ++ [lay m lv name words e.x.ps]).map D.str)) = O1
        have := ad O1
        simp [-List.map_append, this, hs]
    | false =>
      rw [q2] at tk0
      have hf : selB lv name words [e] nm = [] := by simp [selB, tkB, q2]
      have hu : upB m lv name words nm e = e := by simp [upB, tkB, q2]
      refine ⟨O, ?_, by rw [hu]; exact A, Fr.refl _ _⟩
      rw [hf, List.append_nil]
      unfold Q_Hall_tell_1
      refine if_f (O1 := O) ?_ rfl
      rw [q] at hq
      have tk0 : fn_Writer_take [.ob e.p, RD] O = .ok (.bl false) O := tk0
      simp [c1', getFD, a512, hq, tk0]
  · have q' : (e.x.nm == nm) = false := by simpa using q
    have hf : selB lv name words [e] nm = [] := by simp [selB, tkB, q']
    have hu : upB m lv name words nm e = e := by simp [upB, tkB, q']
    refine ⟨O, ?_, by rw [hu]; exact A, Fr.refl _ _⟩
    rw [hf, List.append_nil]
    unfold Q_Hall_tell_1
    refine if_f (O1 := O) ?_ rfl
    rw [q'] at hq
    simp [c1', getFD, a512, hq]
theorem items_wrB (es : List En) : itemsL (wrB es) = es.map itB := by
  unfold itemsL wrB
  rw [List.map_map]; rfl
theorem tell2B {m lv : Nat} {name words : Tx} (R : Rs m lv name words) (nm : Tx) : ∀ (suf pre : List En) (F : List Nat) (O : Sto) (x4 x5 : Option D), HB bd { X with es := pre ++ suf } O → (∀ e ∈ suf, WrOk e.x) → (∀ e ∈ suf, e.r.length ≤ 1000000) → F.length + suf.length ≤ 10000 →
    ∃ O' y4 y5, forL (tupG 2 (consG (nameG 4) (consG (nameG 5) nilG))) Q_Hall_tell_1 [] (suf.map itB) (envTB X.h (recD m lv name words) F (some (.str nm)) x4 x5) O = .nx (envTB X.h (recD m lv name words) (F ++ selB lv name words suf nm) (some (.str nm)) y4 y5) O' ∧
      HB bd { X with es := pre ++ suf.map (upB m lv name words nm) } O' ∧ Fr (suf.map (·.t)) O O'
  | [], pre, F, O, x4, x5, A, _, _, _ => ⟨O, x4, x5, by simp [forL, stillOk, selB], by simpa using A, Fr.refl _ _⟩
  | e :: suf, pre, F, O, x4, x5, A, hW, hr, hF => by
    simp only [List.length_cons] at hF
    obtain ⟨O1, e1, A1, f1⟩ := tell1B R (hW e (by simp)) A (hr e (by simp)) nm F (by omega)
    have A1' : HB bd { X with es := (pre ++ [upB m lv name words nm e]) ++ suf } O1 := by simpa using A1
    have hl : (selB lv name words [e] nm).length ≤ 1 := selB_len lv name words [e] nm
    obtain ⟨O2, y4, y5, e2, A2, f2⟩ := tell2B R nm suf (pre ++ [upB m lv name words nm e]) (F ++ selB lv name words [e] nm) O1 (some (.int e.k)) (some (.ob e.p)) A1' (fun y hy => hW y (by simp [hy])) (fun y hy => hr y (by simp [hy])) (by rw [List.length_append]; omega)
    have hsel : selB lv name words (e :: suf) nm = selB lv name words [e] nm ++ selB lv name words suf nm := by
      simp only [selB]
      rw [← List.map_append, ← List.filter_append]; rfl
    refine ⟨O2, y4, y5, ?_, by simpa using A2, (f1.mono (by simp)).trans (f2.mono (fun i hi => by simp only [List.map_cons, List.mem_cons]; exact .inr hi))⟩
    rw [hsel, ← List.append_assoc, List.map_cons]
    exact Lk10.forL_go (r1 := envTB X.h (recD m lv name words) F (some (.str nm)) (some (.int e.k)) (some (.ob e.p))) (O1 := O) rfl (.inl e1) e2
/-- names one behind the other -/
def upsB (m lv : Nat) (name words : Tx) (ns : List Tx) (es : List En) : List En := ns.foldl (fun es nm => es.map (upB m lv name words nm)) es
theorem selB_up (m lv : Nat) (name words nm nm' : Tx) : ∀ es : List En, selB lv name words (es.map (upB m lv name words nm)) nm' = selB lv name words es nm'
  | [] => rfl
  | e :: es => by
    have h1 : ∀ a b : En, selB lv name words [a] nm' = selB lv name words [b] nm' → ∀ l l', selB lv name words l nm' = selB lv name words l' nm' → selB lv name words (a :: l) nm' = selB lv name words (b :: l') nm' := by
      intro a b h l l' h'
      have hs : ∀ (a : En) l, selB lv name words (a :: l) nm' = selB lv name words [a] nm' ++ selB lv name words l nm' := fun a l => by
        simp only [selB]
        rw [← List.map_append, ← List.filter_append]; rfl
      rw [hs, hs b, h, h']
    rw [List.map_cons]
    refine h1 _ _ ?_ _ _ (selB_up m lv name words nm nm' es)
    obtain ⟨u1, u2, u3, u4⟩ := upB_k m lv name words nm e
    simp only [selB, List.filter_cons, List.filter_nil]
    have : tkB lv name words nm' (upB m lv name words nm e) = tkB lv name words nm' e := by simp [tkB, u4]
    rw [this]
    split <;> simp [u1]
theorem up_texts (m lv : Nat) (name words nm : Tx) (es : List En) : (es.map (upB m lv name words nm)).map (·.t) = es.map (·.t) := by
  rw [List.map_map]
  exact List.map_congr_left fun e _ => (upB_k m lv name words nm e).2.2.1
theorem up_rl {m lv : Nat} {name words nm : Tx} {B : Nat} {es : List En} (h : ∀ e ∈ es, e.r.length ≤ B) : ∀ e ∈ es.map (upB m lv name words nm), e.r.length ≤ B + 1 := by
  intro e he
  obtain ⟨y, hy, rfl⟩ := List.mem_map.mp he
  have := h y hy
  unfold upB pushB
  split <;> simp <;> omega
theorem up_ok {m lv : Nat} {name words nm : Tx} {es : List En} (h : ∀ e ∈ es, WrOk e.x) : ∀ e ∈ es.map (upB m lv name words nm), WrOk e.x := by
  intro e he
  obtain ⟨y, hy, rfl⟩ := List.mem_map.mp he
  rw [(upB_k m lv name words nm y).2.2.2]; exact h y hy
theorem tell3B {m lv : Nat} {name words : Tx} (R : Rs m lv name words) : ∀ (ns : List Tx) (es : List En) (F : List Nat) (O : Sto) (x3 x4 x5 : Option D), HB bd { X with es := es } O → (∀ e ∈ es, WrOk e.x) → (∀ e ∈ es, e.r.length + ns.length ≤ 1000000) → F.length + ns.length * 100 ≤ 9000 →
    ∃ O' y3 y4 y5, forL (nameG 3) Q_Hall_tell_2 [] (ns.map D.str) (envTB X.h (recD m lv name words) F x3 x4 x5) O = .nx (envTB X.h (recD m lv name words) (F ++ ns.flatMap (selB lv name words es)) y3 y4 y5) O' ∧
      HB bd { X with es := upsB m lv name words ns es } O' ∧ Fr (es.map (·.t)) O O'
  | [], es, F, O, x3, x4, x5, A, _, _, _ => ⟨O, x3, x4, x5, by simp [forL, stillOk], A, Fr.refl _ _⟩
  | n :: ns, es, F, O, x3, x4, x5, A, hW, hr, hF => by
    simp only [List.length_cons] at hF
    have hwl : X.n ≤ 100 := A.wl
    have hel : es.length ≤ X.n := A.el
    obtain ⟨O1, y4, y5, e1, A1, f1⟩ := tell2B R n es [] F O x4 x5 (by simpa using A) hW (fun e he => by have := hr e he; simp at this; omega) (by omega)
    have A1' : HB bd { X with es := es.map (upB m lv name words n) } O1 := by simpa using A1
    have hsl := selB_len lv name words es n
    obtain ⟨O2, z3, z4, z5, e2, A2, f2⟩ := tell3B R ns (es.map (upB m lv name words n)) (F ++ selB lv name words es n) O1 (some (.str n)) y4 y5 A1' (up_ok hW) (fun e he => by
      have := up_rl (m := m) (lv := lv) (name := name) (words := words) (nm := n) (es := es) (B := 1000000 - (ns.length + 1)) (fun y hy => by have := hr y hy; simp at this; omega) e he
      obtain ⟨y, hy, _⟩ := List.mem_map.mp he
      have := hr y hy
      simp at this
      omega) (by rw [List.length_append]; omega)
    have hfm : ns.flatMap (selB lv name words (es.map (upB m lv name words n))) = ns.flatMap (selB lv name words es) := by
      congr 1; funext nm'; exact selB_up m lv name words n nm' es
    rw [hfm] at e2
    rw [up_texts] at f2
    refine ⟨O2, z3, z4, z5, ?_, A2, f1.trans f2⟩
    rw [List.flatMap_cons, ← List.append_assoc, List.map_cons]
    refine Lk10.forL_go (r1 := envTB X.h (recD m lv name words) F (some (.str n)) x4 x5) (O1 := O) rfl (.inl (?_ : Q_Hall_tell_2 (envTB X.h (recD m lv name words) F (some (.str n)) x4 x5) O = .nx (envTB X.h (recD m lv name words) (F ++ selB lv name words es n) (some (.str n)) y4 y5) O1)) e2
    have A5 : O[X.h]? = some (.ins 5 [(16, .ob X.l), (17, .ob X.c), (18, .ob X.w), (0, .int X.n), (19, .int X.s)]) := A.h
    have Aw : O[X.w]? = some (.dic (wrB es)) := A.wr
    have hsrc : seqI (listItemsE (fldE att 18 (varE 0))) (envTB X.h (recD m lv name words) F (some (.str n)) x4 x5) O = .ok ⟨es.map itB, []⟩ O := by
      generalize recD m lv name words = RD
      simp [listItemsE, A5, getFD, a518, dicOf, Aw, items_wrB]
    unfold Q_Hall_tell_2
    rw [ev_forS, hsrc, bindS_ok']
    exact e1
/-- whether a record is told, and the ways of it -/
def Hd.goes (X : Hd) (lv : Nat) (name : Tx) : Bool := decide (X.s ≤ (lv : Int)) && decide (lvl X.M name ≤ lv)
def Hd.ways (X : Hd) (lv : Nat) (name : Tx) : List Tx := if X.goes lv name then waysL X.Cl (name :: above name) else []
def Hd.who (X : Hd) (lv : Nat) (name words : Tx) : List Nat := (X.ways lv name).flatMap (selB lv name words X.es)
def Hd.told (X : Hd) (m lv : Nat) (name words : Tx) : Hd := { X with es := upsB m lv name words (X.ways lv name) X.es }
theorem HB.told_at (A : HB bd X O) {name : Tx} (hn : name.length ≤ 1000) (lv : Nat) : fn_Hall_is_told [.ob X.h, .str name, .int (lv : Nat)] O = .ok (.bl (X.goes lv name)) O := by
  obtain ⟨L, l1, l2, l3⟩ := A.lv
  have A5 : O[X.h]? = some (.ins 5 [(16, .ob X.l), (17, .ob X.c), (18, .ob X.w), (0, .int X.n), (19, .int X.s)]) := A.h
  have it := is_told_ok X.h _ X.l L X.M l3 O A5 rfl l1 X.s rfl name hn (lv : Int)
  have it2 : fn_Hall_is_told [.ob X.h, .str name, .int (lv : Nat)] O = .ok (.bl (decide (X.s ≤ (lv : Int)) && decide ((lvl X.M name : Int) ≤ (lv : Int)))) O := it
  rw [it2]
  have : decide ((lvl X.M name : Int) ≤ (lv : Int)) = decide (lvl X.M name ≤ lv) := by simp
  rw [this]; rfl
theorem tellB {m lv : Nat} {name words : Tx} (R : Rs m lv name words) (hN : Nm name) (hW : ∀ e ∈ X.es, WrOk e.x) (A : HB bd X O) (hr : ∀ e ∈ X.es, e.r.length ≤ 900000) :
    ∃ O', fn_Hall_tell [.ob X.h, recD m lv name words] O = .ok (.tup (numsB (X.who lv name words))) O' ∧ HB bd (X.told m lv name words) O' ∧ Fr (X.es.map (·.t)) O O' := by
  have hs : sizeLine = 16777216 := sizeLine_nat
  have A5 : O[X.h]? = some (.ins 5 [(16, .ob X.l), (17, .ob X.c), (18, .ob X.w), (0, .int X.n), (19, .int X.s)]) := A.h
  have wy := ways_okB A name R.n
  have h6 := above_len6 hN
  have hwl := waysL_len X.Cl (name :: above name)
  have it2 := A.told_at R.n lv
  have hx1 : ∀ O, ixD (recD m lv name words) (.int 1) O = .ok (.int (lv : Nat)) O := fun O => rfl
  have hx2 : ∀ O, ixD (recD m lv name words) (.int 2) O = .ok (.str name) O := fun O => rfl
  unfold Hd.who Hd.told Hd.ways
  cases q : X.goes lv name with
  | true =>
    obtain ⟨O2, y3, y4, y5, e2, A2, k2⟩ := tell3B (X := X) R (waysL X.Cl (name :: above name)) X.es [] O none none none A hW (fun r q => by have := hr r q; simp at hwl; omega) (by simp at hwl ⊢; omega)
    simp only [List.nil_append] at e2
    rw [q] at it2
    simp only [if_true]
    refine ⟨O2, ?_, A2, k2⟩
    refine run_ret2 ?_
    show B_Hall_tell [some (.ob X.h), some (recD m lv name words), none, none, none, none] O = _
    generalize recD m lv name words = RD at *
    unfold B_Hall_tell
    refine cs_nx (r1 := envTB X.h RD [] none none none) (O1 := O) (by simp) ?_
    refine cs_nx (r1 := envTB X.h RD ((waysL X.Cl (name :: above name)).flatMap (selB lv name words X.es)) y3 y4 y5) (O1 := O2) (if_t (O1 := O) (by simp [A5, hx1, hx2, it2]) ?_) (by simp)
    have hsrc : seqI (methE 5 2 fn_Hall_ways (varE 0) (consA (op2 ixD (varE 1) (constE (.int 2))) nilA)) (envTB X.h RD [] none none none) O = .ok ⟨(waysL X.Cl (name :: above name)).map D.str, []⟩ O := by
      simp [A5, hx2, wy]
    rw [ev_forS, hsrc, bindS_ok']; exact e2
  | false =>
    rw [q] at it2
    simp only [Bool.false_eq_true, if_false]
    refine ⟨O, ?_, A, Fr.refl _ _⟩
    refine run_ret2 ?_
    show B_Hall_tell [some (.ob X.h), some (recD m lv name words), none, none, none, none] O = _
    generalize recD m lv name words = RD at *
    unfold B_Hall_tell
    refine cs_nx (r1 := envTB X.h RD [] none none none) (O1 := O) (by simp) ?_
    refine cs_nx (r1 := envTB X.h RD [] none none none) (O1 := O) (if_f (O1 := O) (by simp [A5, hx1, hx2, it2]) rfl) (by simp)
theorem HB.at_ok (A : HB bd X O) {e : En} (he : e ∈ X.es) : fn_Hall_writer_at [.ob X.h, .int (e.k : Int)] O = .ok (.ob e.p) O := by
  have A5 : O[X.h]? = some (.ins 5 [(16, .ob X.l), (17, .ob X.c), (18, .ob X.w), (0, .int X.n), (19, .int X.s)]) := A.h
  have Aw := A.wr
  have wa := wrB_at A.inc he
  have hin : inB true (.int (e.k : Int)) (.ob X.w) O = .ok (.bl false) O := by simp [inB, dicOf, Aw, keyD, wa]
  have hix : ixD (.ob X.w) (.int (e.k : Int)) O = .ok (.ob e.p) O := by rw [ix_obD Aw]; simp [keyD, wa]
  simp [fn_Hall_writer_at, runFn_eq, B_Hall_writer_at, A5, getFD, a518, hin, hix]
theorem HB.at_no (A : HB bd X O) {k : Nat} (hk : ∀ e ∈ X.es, e.k ≠ k) : fn_Hall_writer_at [.ob X.h, .int (k : Int)] O = .exc ⟨5, []⟩ O := by
  have A5 : O[X.h]? = some (.ins 5 [(16, .ob X.l), (17, .ob X.c), (18, .ob X.w), (0, .int X.n), (19, .int X.s)]) := A.h
  have Aw := A.wr
  have wa := wrB_none hk
  have hin : inB true (.int (k : Int)) (.ob X.w) O = .ok (.bl true) O := by simp [inB, dicOf, Aw, keyD, wa]
  simp [fn_Hall_writer_at, runFn_eq, B_Hall_writer_at, A5, getFD, a518, hin, raiseS]
theorem rowsB (A : HB bd X O) {e : En} (he : e ∈ X.es) : fn_Hall_rows [.ob X.h, .int (e.k : Int)] O = .ok (.tup (e.r.map D.str)) O := by
  have c1 : O[e.p]? = some (.ins 4 [(12, .str e.x.nm), (13, .int e.x.ls), (14, gateD e.x.g), (15, .str e.x.f), (6, .ob e.t)]) := A.wa e he
  have c2 := A.ta e he
  have e1 := A.at_ok he
  simp [fn_Hall_rows, runFn_eq, B_Hall_rows, A.h, hC, e1, c1, getFD, a406, tupleF, listR, listS, seqR, c2]
theorem rowsB_no (A : HB bd X O) {k : Nat} (hk : ∀ e ∈ X.es, e.k ≠ k) : fn_Hall_rows [.ob X.h, .int (k : Int)] O = .exc ⟨5, []⟩ O := by
  have e1 := A.at_no hk
  simp [fn_Hall_rows, runFn_eq, B_Hall_rows, A.h, hC, e1]
theorem awayB_no (A : HB bd X O) {k : Nat} (hk : ∀ e ∈ X.es, e.k ≠ k) : fn_Hall_take_away [.ob X.h, .int (k : Int)] O = .exc ⟨5, []⟩ O := by
  have e1 := A.at_no hk
  simp [fn_Hall_take_away, runFn_eq, B_Hall_take_away, A.h, hC, e1]
def Hd.less (X : Hd) (k : Nat) : Hd := { X with es := X.es.filter fun e => decide (e.k ≠ k) }
theorem delB (es : List En) (k : Nat) : delK (wrB es) (.inl (k : Int)) = wrB (es.filter fun e => decide (e.k ≠ k)) := by
  unfold delK wrB
  rw [List.filter_map]
  congr 1
  refine List.filter_congr fun e _ => ?_
  simp only [Function.comp, ne_eq, decide_not]
  by_cases q : e.k = k
  · subst q; simp
  · have : ¬ ((Sum.inl (e.k : Int) : DKey) = .inl (k : Int)) := fun z => q (by injection z with z; omega)
    simp [q, this]
theorem awayB (A : HB bd X O) {e : En} (he : e ∈ X.es) : ∃ O', fn_Hall_take_away [.ob X.h, .int (e.k : Int)] O = .ok .non O' ∧ HB bd (X.less e.k) O' ∧ Fr [X.w] O O' := by
  have hs : sizeLine = 16777216 := sizeLine_nat
  have Aw := A.wr
  have A5 : O[X.h]? = some (.ins 5 [(16, .ob X.l), (17, .ob X.c), (18, .ob X.w), (0, .int X.n), (19, .int X.s)]) := A.h
  have e1 := A.at_ok he
  have wa := wrB_at A.inc he
  have hlt : X.w < O.length := (List.getElem?_eq_some_iff.mp Aw).1
  have ne : ∀ (k : Nat) (d : Cell), O[k]? = some d → k ≠ X.w → (O.set X.w (.dic (wrB (X.less e.k).es)))[k]? = some d := fun k d q n => by rw [List.getElem?_set_ne (fun z => n z.symm)]; exact q
  have nd : ∀ (k : Nat) (d : Cell), O[k]? = some d → (∀ L, d ≠ .dic L) → (O.set X.w (.dic (wrB (X.less e.k).es)))[k]? = some d := fun k d q n => ne k d q (fun z => by rw [z, Aw] at q; exact n _ (Option.some.inj q).symm)
  refine ⟨O.set X.w (.dic (wrB (X.less e.k).es)), ?_, ⟨nd _ _ A.h (fun _ z => by cases z), let ⟨L, h1, h2⟩ := A.lv; ⟨L, ne _ _ h1 A.lw, h2⟩, let ⟨L, h1, h2⟩ := A.cl; ⟨L, ne _ _ h1 A.cw, h2⟩, List.getElem?_set_self hlt,
    fun y hy => nd _ _ (A.wa y (List.mem_filter.mp hy).1) (fun _ z => by cases z), fun y hy => nd _ _ (A.ta y (List.mem_filter.mp hy).1) (fun _ z => by cases z), A.inc.filter _, fun y hy => A.kn y (List.mem_filter.mp hy).1, A.td.filter _, A.wl, A.lw, A.cw, A.lc⟩, Fr.set _ _ _⟩
  have hd := delB X.es e.k
  have pop : popD (.ob X.w) (.int (e.k : Int)) O = .ok (.ob e.p) (O.set X.w (.dic (wrB (X.less e.k).es))) := by
    have hdi : dicOf (.ob X.w) O = some (X.w, wrB X.es) := by simp [dicOf, Aw]
    simp only [popD, hdi, keyD, wa, hd]; rfl
  have tyd : tyDic (.ob X.w) O = true := by simp [tyDic, dicOf, Aw]
  simp [fn_Hall_take_away, runFn_eq, B_Hall_take_away, A5, e1, popE, getFD, a518, tyd, pop]
/-- a deed at the level's dict, at the closed names' dict -/
def Hd.lev (X : Hd) (x : Tx) (v : Nat) : Hd := { X with M := fun k => if k = x then some v else X.M k }
def Hd.clo (X : Hd) (x : Tx) (v : Bool) : Hd := { X with Cl := fun k => if k = x then v else X.Cl k }
theorem setlvB (A : HB bd X O) (x : Tx) (v : Nat) (hb : bd ≤ 1000) : ∃ O', fn_Hall_set_level [.ob X.h, .str x, .int v] O = .ok .non O' ∧ HB (bd + 1) (X.lev x v) O' ∧ Fr [X.l] O O' := by
  have hs : sizeLine = 16777216 := sizeLine_nat
  have A5 : O[X.h]? = some (.ins 5 [(16, .ob X.l), (17, .ob X.c), (18, .ob X.w), (0, .int X.n), (19, .int X.s)]) := A.h
  obtain ⟨L, q1, q2, q3⟩ := A.lv
  have hll : X.l < O.length := (List.getElem?_eq_some_iff.mp q1).1
  have ne : ∀ (k : Nat) (d : Cell), O[k]? = some d → k ≠ X.l → (O.set X.l (.dic (putD L (.inr x) (.int v))))[k]? = some d := fun k d e n => by rw [List.getElem?_set_ne (fun z => n z.symm)]; exact e
  have nd : ∀ (k : Nat) (d : Cell), O[k]? = some d → (∀ L, d ≠ .dic L) → (O.set X.l (.dic (putD L (.inr x) (.int v))))[k]? = some d := fun k d q n => ne k d q (fun z => by rw [z, q1] at q; exact n _ (Option.some.inj q).symm)
  have hp := put_lenN (.inr x) (.int v) L
  refine ⟨O.set X.l (.dic (putD L (.inr x) (.int v))), ?_, ⟨nd _ _ A.h (fun _ z => by cases z), ⟨_, List.getElem?_set_self hll, by omega, fun k => ?_⟩, let ⟨L, h1, h2, h3⟩ := A.cl; ⟨L, ne _ _ h1 A.lc.symm, by omega, h3⟩, ne _ _ A.wr A.lw.symm,
    fun y hy => nd _ _ (A.wa y hy) (fun _ z => by cases z), fun y hy => nd _ _ (A.ta y hy) (fun _ z => by cases z), A.inc, A.kn, A.td, A.wl, A.lw, A.cw, A.lc⟩, Fr.set _ _ _⟩
  · simp [fn_Hall_set_level, runFn_eq, B_Hall_set_level, subG, A5, getFD, a516, stoD, q1, keyD, hs, show L.length < 16777216 by omega]
  · rw [getK_putN]
    show _ = ((if k = x then some v else X.M k).map fun n : Nat => D.int n)
    by_cases q : k = x
    · subst q; simp
    · have : ¬ (Sum.inr k : DKey) = .inr x := fun e => q (by injection e)
      rw [if_neg this, if_neg q]; exact q3 k
theorem closeB (A : HB bd X O) (x : Tx) (v : Bool) (hb : bd ≤ 1000) : ∃ O', fn_Hall_close [.ob X.h, .str x, .bl v] O = .ok .non O' ∧ HB (bd + 1) (X.clo x v) O' ∧ Fr [X.c] O O' := by
  have hs : sizeLine = 16777216 := sizeLine_nat
  have A5 : O[X.h]? = some (.ins 5 [(16, .ob X.l), (17, .ob X.c), (18, .ob X.w), (0, .int X.n), (19, .int X.s)]) := A.h
  obtain ⟨L, q1, q2, q3⟩ := A.cl
  have hll : X.c < O.length := (List.getElem?_eq_some_iff.mp q1).1
  have ne : ∀ (k : Nat) (d : Cell), O[k]? = some d → k ≠ X.c → (O.set X.c (.dic (putD L (.inr x) (.bl v))))[k]? = some d := fun k d e n => by rw [List.getElem?_set_ne (fun z => n z.symm)]; exact e
  have nd : ∀ (k : Nat) (d : Cell), O[k]? = some d → (∀ L, d ≠ .dic L) → (O.set X.c (.dic (putD L (.inr x) (.bl v))))[k]? = some d := fun k d q n => ne k d q (fun z => by rw [z, q1] at q; exact n _ (Option.some.inj q).symm)
  have hp := put_lenN (.inr x) (.bl v) L
  refine ⟨O.set X.c (.dic (putD L (.inr x) (.bl v))), ?_, ⟨nd _ _ A.h (fun _ z => by cases z), let ⟨L, h1, h2, h3⟩ := A.lv; ⟨L, ne _ _ h1 A.lc, by omega, h3⟩, ⟨_, List.getElem?_set_self hll, by omega, fun k => ?_⟩, ne _ _ A.wr A.cw.symm,
    fun y hy => nd _ _ (A.wa y hy) (fun _ z => by cases z), fun y hy => nd _ _ (A.ta y hy) (fun _ z => by cases z), A.inc, A.kn, A.td, A.wl, A.lw, A.cw, A.lc⟩, Fr.set _ _ _⟩
  · simp [fn_Hall_close, runFn_eq, B_Hall_close, subG, A5, getFD, a517, stoD, q1, keyD, hs, show L.length < 16777216 by omega]
  · rw [getK_putN]
    show _ = D.bl (if k = x then v else X.Cl k)
    by_cases q : k = x
    · subst q; simp
    · have : ¬ (Sum.inr k : DKey) = .inr x := fun e => q (by injection e)
      rw [if_neg this, if_neg q]; exact q3 k
theorem HB.up (A : HB bd X O) {bd' : Nat} (h : bd ≤ bd') : HB bd' X O := ⟨A.h, let ⟨L, h1, h2, h3⟩ := A.lv; ⟨L, h1, by omega, h3⟩, let ⟨L, h1, h2, h3⟩ := A.cl; ⟨L, h1, by omega, h3⟩, A.wr, A.wa, A.ta, A.inc, A.kn, A.td, A.wl, A.lw, A.cw, A.lc⟩
def Hd.more (X : Hd) (p : Nat) (x : Wr) : Hd := { X with n := X.n + 1, es := X.es ++ [⟨X.n + 1, p, p + 1, x, []⟩] }
theorem putB {es : List En} {n p : Nat} (h : ∀ e ∈ es, e.k ≤ n) (t : Nat) (x : Wr) (r : List Tx) : putD (wrB es) (.inl ((n : Int) + 1)) (.ob p) = wrB (es ++ [⟨n + 1, p, t, x, r⟩]) := by
  have : (wrB es).any (fun q => decide (q.1 = .inl ((n : Int) + 1))) = false := by
    rw [List.any_eq_false]
    intro q hq
    unfold wrB at hq
    obtain ⟨e, he, rfl⟩ := List.mem_map.mp hq
    have := h e he
    have : ¬ ((Sum.inl (e.k : Int) : DKey) = .inl ((n : Int) + 1)) := fun z => by injection z with z; omega
    simp [this]
  unfold putD
  rw [this]
  simp [wrB]
theorem addB {x : Wr} (W : WrOk x) (A : HB bd X O) (hn : X.n < 100) :
    ∃ O', fn_Hall_add_writer [.ob X.h, .str x.nm, .int x.ls, .str (gt x.g), .str x.f] O = .ok (.int ((X.n : Int) + 1)) O' ∧ HB bd (X.more O.length x) O' ∧ O'.length = O.length + 2 ∧ Fr [X.h, X.w] O O' := by
  have hs : sizeLine = 16777216 := sizeLine_nat
  have A5 : O[X.h]? = some (.ins 5 [(16, .ob X.l), (17, .ob X.c), (18, .ob X.w), (0, .int X.n), (19, .int X.s)]) := A.h
  have Aw := A.wr
  have hlh : X.h < O.length := (List.getElem?_eq_some_iff.mp A5).1
  have hlw : X.w < O.length := (List.getElem?_eq_some_iff.mp Aw).1
  have hhw : X.h ≠ X.w := fun e => by rw [e, Aw] at A5; cases A5
  have r1 := readg_ok W.gf W.gz
  have r2 : ∀ O, closeFn fn_read_form [.str x.f] O = .ok (.tup (x.ps.map partD)) O := fun O => by
    have := read_form_any x.f (by have := W.fl; omega) O
    rw [W.rd] at this
    exact this.2
  obtain ⟨O1, hO1⟩ : ∃ O1, O1 = O.set X.h (hC X.l X.c X.w (X.n + 1) X.s) := ⟨_, rfl⟩
  have h1 : O1[X.h]? = some (.ins 5 [(16, .ob X.l), (17, .ob X.c), (18, .ob X.w), (0, .int ((X.n : Int) + 1)), (19, .int X.s)]) := by rw [hO1, List.getElem?_set_self hlh]; rfl
  have len1 : O1.length = O.length := by rw [hO1]; simp
  have w1 : O1[X.w]? = some (.dic (wrB X.es)) := by rw [hO1, List.getElem?_set_ne hhw]; exact Aw
  have k1 : ∀ (i : Nat) d, O[i]? = some d → i ≠ X.h → O1[i]? = some d := fun i d e n => by rw [hO1, List.getElem?_set_ne (fun z => n z.symm)]; exact e
  obtain ⟨O2, hO2⟩ : ∃ O2, O2 = O1 ++ [wC x (O.length + 1), .lst []] := ⟨_, rfl⟩
  have h2 : O2[X.h]? = some (.ins 5 [(16, .ob X.l), (17, .ob X.c), (18, .ob X.w), (0, .int ((X.n : Int) + 1)), (19, .int X.s)]) := by rw [hO2]; exact get_app h1 _
  have w2 : O2[X.w]? = some (.dic (wrB X.es)) := by rw [hO2]; exact get_app w1 _
  have wi : fn_Writer_init [.ob O1.length, .str x.nm, .int x.ls, gateD x.g, .str x.f] (O1 ++ [.ins 4 []]) = .ok .non O2 := by rw [winit_ok, hO2, wC, len1]
  have hpu := putB (n := X.n) (p := O.length) (fun e he => (A.kn e he).2) (O.length + 1) x []
  obtain ⟨O3, hO3⟩ : ∃ O3, O3 = O2.set X.w (.dic (wrB (X.more O.length x).es)) := ⟨_, rfl⟩
  have hlw2 : X.w < O2.length := (List.getElem?_eq_some_iff.mp w2).1
  have h3 : O3[X.h]? = some (.ins 5 [(16, .ob X.l), (17, .ob X.c), (18, .ob X.w), (0, .int ((X.n : Int) + 1)), (19, .int X.s)]) := by rw [hO3, List.getElem?_set_ne hhw.symm]; exact h2
  have w3 : O3[X.w]? = some (.dic (wrB (X.more O.length x).es)) := by rw [hO3, List.getElem?_set_self hlw2]
  have k3 : ∀ (i : Nat) d, O2[i]? = some d → i ≠ X.w → O3[i]? = some d := fun i d e n => by rw [hO3, List.getElem?_set_ne (fun z => n z.symm)]; exact e
  have kA : ∀ (i : Nat) d, O[i]? = some d → i ≠ X.h → i ≠ X.w → O3[i]? = some d := fun i d e n1 n2 => k3 i d (by rw [hO2]; exact get_app (k1 i d e n1) _) n2
  have nx : ∀ (k : Nat) (d : Cell), O[k]? = some d → (∀ fs, d ≠ .ins 5 fs) → (∀ L, d ≠ .dic L) → O3[k]? = some d := fun k d q n1 n2 => kA k d q (fun z => by rw [z, A5] at q; exact n1 _ (Option.some.inj q).symm) (fun z => by rw [z, Aw] at q; exact n2 _ (Option.some.inj q).symm)
  have len3 : O3.length = O.length + 2 := by rw [hO3, hO2]; simp [len1]
  have mem : ∀ e ∈ (X.more O.length x).es, e ∈ X.es ∨ e = ⟨X.n + 1, O.length, O.length + 1, x, []⟩ := fun e he => by simpa [Hd.more] using he
  have tlt : ∀ e ∈ X.es, e.t < O.length := fun e he => (List.getElem?_eq_some_iff.mp (A.ta e he)).1
  refine ⟨O3, ?_, ⟨?_, ?_, ?_, w3, ?_, ?_, ?_, ?_, ?_, ?_, A.lw, A.cw, A.lc⟩, len3, ⟨by omega, fun i d q n => kA i d q (fun z => n (by simp [z])) (fun z => n (by simp [z]))⟩⟩
  · refine run_ret2 ?_
    show B_Hall_add_writer [some (.ob X.h), some (.str x.nm), some (.int x.ls), some (.str (gt x.g)), some (.str x.f), none] O = _
    unfold B_Hall_add_writer
    refine cs_nx (r1 := [some (.ob X.h), some (.str x.nm), some (.int x.ls), some (.str (gt x.g)), some (.str x.f), some (gateD x.g)]) (O1 := O) (by simp [r1]) ?_
    refine cs_nx (r1 := [some (.ob X.h), some (.str x.nm), some (.int x.ls), some (.str (gt x.g)), some (.str x.f), some (gateD x.g)]) (O1 := O) (by simp [r2]) ?_
    refine cs_nx (r1 := [some (.ob X.h), some (.str x.nm), some (.int x.ls), some (.str (gt x.g)), some (.str x.f), some (gateD x.g)]) (O1 := O1) (by simp [A5, getFD, putFD, a500, hO1, hC]) ?_
    refine cs_nx (r1 := [some (.ob X.h), some (.str x.nm), some (.int x.ls), some (.str (gt x.g)), some (.str x.f), some (gateD x.g)]) (O1 := O3) ?_ ?_
    · have st : stoD (.ob X.w) (.int ((X.n : Int) + 1)) (.ob O1.length) O2 = some O3 := by
        have hlen := wrB_len X.es
        have hel := A.el
        simp only [stoD, w2, keyD]
        rw [if_pos (by rw [hlen, hs]; omega), len1, hpu, hO3]; rfl
      have mk : makeE 4 5 fn_Writer_init (consA (varE 1) (consA (varE 2) (consA (varE 5) (consA (varE 4) nilA)))) [some (.ob X.h), some (.str x.nm), some (.int x.ls), some (.str (gt x.g)), some (.str x.f), some (gateD x.g)] O1 = .ok (.ob O1.length) O2 := by
        simp [wi]
      rw [ev_asgS, mk, bindS_ok']
      simp [subG, h2, getFD, a518, a500, st]
    · simp [h3, getFD, a500]
  · show O3[X.h]? = some (hC X.l X.c X.w (X.n + 1) X.s)
    rw [h3]; simp [hC]
  · obtain ⟨L, q1, q2, q3⟩ := A.lv
    exact ⟨L, kA X.l _ q1 (fun z => by rw [z, A5] at q1; cases q1) A.lw, q2, q3⟩
  · obtain ⟨L, q1, q2, q3⟩ := A.cl
    exact ⟨L, kA X.c _ q1 (fun z => by rw [z, A5] at q1; cases q1) A.cw, q2, q3⟩
  · intro e he
    rcases mem e he with he | rfl
    · exact nx _ _ (A.wa e he) (fun fs z => by cases z) (fun L z => by cases z)
    · refine k3 _ _ ?_ (by show O.length ≠ X.w; omega)
      show O2[O.length]? = some (wC x (O.length + 1))
      rw [hO2, ← len1]; simp
  · intro e he
    rcases mem e he with he | rfl
    · exact nx _ _ (A.ta e he) (fun fs z => by cases z) (fun L z => by cases z)
    · refine k3 _ _ ?_ (by show O.length + 1 ≠ X.w; omega)
      show O2[O.length + 1]? = some (.lst [])
      rw [hO2, ← len1, List.getElem?_append_right (by omega)]; simp
  · show (X.es ++ [_]).Pairwise _
    rw [List.pairwise_append]
    refine ⟨A.inc, by simp, fun a ha b hb => ?_⟩
    simp only [List.mem_cons, List.not_mem_nil, or_false] at hb
    subst hb
    have := (A.kn a ha).2
    show a.k < X.n + 1
    omega
  · intro e he
    show 1 ≤ e.k ∧ e.k ≤ X.n + 1
    rcases mem e he with he | rfl
    · have := A.kn e he; omega
    · exact ⟨by show 1 ≤ X.n + 1; omega, Nat.le_refl _⟩
  · show (X.es ++ [_]).Pairwise _
    rw [List.pairwise_append]
    refine ⟨A.td, by simp, fun a ha b hb => ?_⟩
    simp only [List.mem_cons, List.not_mem_nil, or_false] at hb
    subst hb
    have := tlt a ha
    show a.t ≠ O.length + 1
    omega
  · show X.n + 1 ≤ 100
    omega
/-- a gate, or a form, that is none -/
theorem addB_gate (A : HB bd X O) {gx fx : Tx} {e : Er} (h1 : ∀ O, closeFn fn_read_gate [.str gx] O = .exc e O) (nm : Tx) (d : D) : fn_Hall_add_writer [.ob X.h, .str nm, d, .str gx, .str fx] O = .exc e O := by
  have hB : B_Hall_add_writer [some (.ob X.h), some (.str nm), some d, some (.str gx), some (.str fx), none] O = .exc e [some (.ob X.h), some (.str nm), some d, some (.str gx), some (.str fx), none] O := by
    unfold B_Hall_add_writer
    exact cs_exc (by simp [h1])
  simp [fn_Hall_add_writer, runFn_eq, hB]
theorem addB_form (A : HB bd X O) {gx fx : Tx} {gd : D} {e : Er} (h1 : ∀ O, closeFn fn_read_gate [.str gx] O = .ok gd O) (h2 : ∀ O, closeFn fn_read_form [.str fx] O = .exc e O) (nm : Tx) (d : D) : fn_Hall_add_writer [.ob X.h, .str nm, d, .str gx, .str fx] O = .exc e O := by
  have hB : B_Hall_add_writer [some (.ob X.h), some (.str nm), some d, some (.str gx), some (.str fx), none] O = .exc e [some (.ob X.h), some (.str nm), some d, some (.str gx), some (.str fx), some gd] O := by
    unfold B_Hall_add_writer
    refine cs_nx (r1 := [some (.ob X.h), some (.str nm), some d, some (.str gx), some (.str fx), some gd]) (O1 := O) (by simp [h1]) ?_
    exact cs_exc (by simp [h2])
  simp [fn_Hall_add_writer, runFn_eq, hB]
def Hd.new (o : Nat) : Hd := ⟨o, o + 1, o + 2, o + 3, 0, 0, M0, fun _ => false, []⟩
theorem hinitB (O : Sto) : HB 1 (Hd.new O.length) (O ++ [hC (O.length + 1) (O.length + 2) (O.length + 3) 0 0, .dic [(.inr [], .int 30)], .dic [], .dic []]) := by
  refine ⟨by simp [Hd.new], ⟨[(.inr [], .int 30)], by simp [Hd.new], by simp, fun k => ?_⟩, ⟨[], by simp [Hd.new], by simp, fun k => by simp [getK, Hd.new]⟩, by simp [wrB, Hd.new], by simp [Hd.new], by simp [Hd.new], by simp [Hd.new], by simp [Hd.new], by simp [Hd.new], by simp [Hd.new], by simp [Hd.new], by simp [Hd.new], by simp [Hd.new]⟩
  show _ = (M0 k).map fun n : Nat => D.int n
  by_cases q : k = []
  · subst q; simp [getK, M0]
  · have : ¬ (Sum.inr [] : DKey) = .inr k := fun e => q (by injection e with e; exact e.symm)
    simp [getK, M0, q, this]
end
end Dn
set_option linter.all false
set_option maxRecDepth 100000
set_option maxHeartbeats 4000000
namespace Dn
open PySem Lib
theorem pts_nil : pts [] = [[]] := by simp [pts, TL.spl]
theorem ups_nd {x : Tx} (hg : ∀ p ∈ pts x, p ≠ []) : ∀ n, n ≤ (pts x).length + 1 → (ups (pts x) n).Nodup
  | 0, _ => by simp [ups]
  | n + 1, hn => by
    have ih := ups_nd hg n (by omega)
    have hne : ∀ {a b : Nat}, a < b → b ≤ (pts x).length → jn ((pts x).take b) ≠ jn ((pts x).take a) := by
      intro a b hab hb e
      have hb0 : 0 < b := by omega
      have eb := pts_take (x := x) hb0 hb
      by_cases ha : a = 0
      · subst ha
        have e0 : jn ((pts x).take 0) = [] := by simp [jn, TL.joinL]
        rw [e, e0, pts_nil] at eb
        have hmem : ([] : Tx) ∈ (pts x).take b := by rw [← eb]; simp
        exact hg [] (List.mem_of_mem_take hmem) rfl
      · have ea := pts_take (x := x) (k := a) (by omega) (by omega)
        rw [e, ea] at eb
        have := congrArg List.length eb
        rw [List.length_take, List.length_take] at this
        omega
    simp only [ups, List.nodup_cons]
    refine ⟨fun z => ?_, ih⟩
    obtain ⟨k, hk, e⟩ := ups_mem.mp z
    exact hne hk (by omega) e
theorem above_nd {x : Tx} (hx : Nm x) : (x :: above x).Nodup := by
  rcases hx with rfl | ⟨h0, h1, h2⟩
  · simp [above]
  · have hg : ∀ p ∈ pts x, p ≠ [] := fun p hp z => by
      have := List.all_eq_true.mp h2 p hp
      rw [z] at this
      simp [good] at this
    have e : x :: above x = ups (pts x) ((pts x).length + 1) := by
      unfold above
      rw [if_neg h0]
      simp only [ups]
      rw [List.take_length, show jn (pts x) = x from by simpa using jn_spl x []]
    rw [e]
    exact ups_nd hg _ (Nat.le_refl _)
theorem waysL_nd (Cl : Tx → Bool) : ∀ {xs : List Tx}, xs.Nodup → (waysL Cl xs).Nodup
  | [], _ => by simp [waysL]
  | a :: r, h => by
    rw [List.nodup_cons] at h
    simp only [waysL, List.nodup_cons]
    refine ⟨fun z => ?_, ?_⟩
    · split at z
      · simp at z
      · exact h.1 (waysL_sub Cl r a z)
    · split
      · simp
      · exact waysL_nd Cl h.2
theorem Hd.ways_nd (X : Hd) {name : Tx} (hn : Nm name) (lv : Nat) : (X.ways lv name).Nodup := by
  unfold Hd.ways
  split
  · exact waysL_nd _ (above_nd hn)
  · simp
/-- who takes -/
def tkAll (ns : List Tx) (lv : Nat) (name words : Tx) (e : En) : Bool := decide (e.x.nm ∈ ns) && tk lv name words e.x
def upAll (m : Nat) (ns : List Tx) (lv : Nat) (name words : Tx) (e : En) : En := if tkAll ns lv name words e then pushB m lv name words e else e
theorem upsB_eq (m lv : Nat) (name words : Tx) : ∀ (ns : List Tx) (es : List En), ns.Nodup → upsB m lv name words ns es = es.map (upAll m ns lv name words)
  | [], es, _ => by
    have : ∀ e : En, upAll m [] lv name words e = e := fun e => by simp [upAll, tkAll]
    show es = es.map (upAll m [] lv name words)
    rw [List.map_congr_left (fun e _ => this e)]; simp
  | n :: ns, es, h => by
    rw [List.nodup_cons] at h
    have ih := upsB_eq m lv name words ns (es.map (upB m lv name words n)) h.2
    have e1 : upsB m lv name words (n :: ns) es = upsB m lv name words ns (es.map (upB m lv name words n)) := rfl
    rw [e1, ih, List.map_map]
    refine List.map_congr_left fun e _ => ?_
    show upAll m ns lv name words (upB m lv name words n e) = upAll m (n :: ns) lv name words e
    by_cases q : e.x.nm = n
    · cases q2 : tk lv name words e.x with
      | true =>
        have u : upB m lv name words n e = pushB m lv name words e := by simp [upB, tkB, q, q2]
        have hx : (pushB m lv name words e).x = e.x := rfl
        rw [u]
        have h1 : tkAll ns lv name words (pushB m lv name words e) = false := by
          simp only [tkAll, hx, q]
          simp [h.1]
        have h2 : tkAll (n :: ns) lv name words e = true := by simp [tkAll, q, q2]
        simp [upAll, h1, h2]
      | false =>
        have u : upB m lv name words n e = e := by simp [upB, tkB, q2]
        rw [u]
        simp [upAll, tkAll, q2]
    · have u : upB m lv name words n e = e := by
        have : (e.x.nm == n) = false := by simpa using q
        simp [upB, tkB, this]
      rw [u]
      simp [upAll, tkAll, q]
theorem upAll_k (m lv : Nat) (ns : List Tx) (name words : Tx) (e : En) : (upAll m ns lv name words e).k = e.k ∧ (upAll m ns lv name words e).p = e.p ∧ (upAll m ns lv name words e).t = e.t ∧ (upAll m ns lv name words e).x = e.x := by
  unfold upAll; split <;> exact ⟨rfl, rfl, rfl, rfl⟩
theorem inc_inj : ∀ {es : List En}, es.Pairwise (fun a b => a.k < b.k) → ∀ {e y : En}, e ∈ es → y ∈ es → e.k = y.k → e = y
  | [], _, e, y, he, _, _ => by cases he
  | a :: es, h, e, y, he, hy, hk => by
    rw [List.pairwise_cons] at h
    rcases List.mem_cons.mp he with q1 | q1
    · rcases List.mem_cons.mp hy with q2 | q2
      · rw [q1, q2]
      · have := h.1 y q2; rw [q1] at hk; omega
    · rcases List.mem_cons.mp hy with q2 | q2
      · have := h.1 e q1; rw [q2] at hk; omega
      · exact inc_inj h.2 q1 q2 hk
theorem who_iff {es : List En} (hi : es.Pairwise fun a b => a.k < b.k) (ns : List Tx) (lv : Nat) (name words : Tx) {e : En} (he : e ∈ es) : e.k ∈ ns.flatMap (selB lv name words es) ↔ tkAll ns lv name words e = true := by
  simp only [List.mem_flatMap, selB, List.mem_map, List.mem_filter, tkAll, tkB, Bool.and_eq_true, decide_eq_true_eq, beq_iff_eq]
  constructor
  · rintro ⟨nm, hn, y, ⟨hy, e1, e2⟩, e3⟩
    have := inc_inj hi hy he e3
    subst this
    exact ⟨by rw [e1]; exact hn, e2⟩
  · rintro ⟨h1, h2⟩
    exact ⟨e.x.nm, h1, e, ⟨he, rfl, h2⟩, rfl⟩
theorem okN_ls {n : Nat} {ds : List D} (h : ∀ d ∈ ds, okN n d = true) : okN (n + 1) (.lst ds) = true := by
  have := okN_tup h
  simp only [okN, pure', toPy, PyData.canLay0, dep] at this ⊢
  exact this
end Dn
set_option linter.all false
set_option maxRecDepth 100000
set_option maxHeartbeats 4000000
namespace Dn
open PySem Lib
theorem eightyW : ∃ W : Tx, W.length ≤ 80 ∧ (∀ c ∈ W, 32 ≤ c ∧ c ≤ 126) ∧ ∀ (r : Rho) (O : Sto), op2 mulSD (constE (.str [119])) (constE (.int 80)) r O = .ok (.str W) O := by
  refine ⟨(List.replicate (80 : Int).toNat [119]).flatten, by decide, by decide +kernel, fun r O => ?_⟩
  rw [ev_op2, ev_const, bind_ok', ev_const, bind_ok']
  simp only [mulSD]
  rw [if_pos (by decide)]
theorem town_recordW (ns : List Int) {O : Sto} {t : Nat} (ht : t < 800000) (hT : TownAt O t) (d : D) :
    ∃ (l : Nat) (name words : Tx) (O' : Sto) (t' : Nat), Nm name ∧ l < 100 ∧ name.length ≤ 40 ∧ words.length ≤ 80 ∧ (∀ c ∈ words, 32 ≤ c ∧ c ≤ 126) ∧ t' ≤ t + 7 ∧ TownAt O' t' ∧ Off O O' ∧ LibD.fn__law_record [.scr (ns.map D.int), .ob 0, d] O = .ok (.tup [d, .int l, .str name, .str words]) O' := by
  have hs : sizeLine = 16777216 := sizeLine_nat
  obtain ⟨W, hW, hWc, eW⟩ := eightyW
  obtain ⟨d1, O1, hd, e1, T1, F1⟩ := pick_ok ns (O := O) (t := t) (ds := [.str [], .str [97, 32, 98], .str [105, 116, 39, 115], .str [120], .str [32, 32, 116, 119, 111], .str [100, 105, 115, 107, 32, 123, 102, 117, 108, 108, 125], .str W]) (by simp) (by omega) hT
  have hx : ∃ x : Tx, d1 = .str x ∧ x.length ≤ 80 ∧ ∀ c ∈ x, 32 ≤ c ∧ c ≤ 126 := by
    simp only [List.mem_cons, List.not_mem_nil, or_false] at hd
    rcases hd with rfl | rfl | rfl | rfl | rfl | rfl | rfl
    · exact ⟨_, rfl, by simp, by simp⟩
    · exact ⟨_, rfl, by simp, by simp⟩
    · exact ⟨_, rfl, by simp, by simp⟩
    · exact ⟨_, rfl, by simp, by simp⟩
    · exact ⟨_, rfl, by simp, by simp⟩
    · exact ⟨_, rfl, by simp, by simp⟩
    · exact ⟨_, rfl, hW, hWc⟩
  obtain ⟨x, rfl, hxl, hxc⟩ := hx
  obtain ⟨d2, O2, a2, b2, e2, T2, F2⟩ := draw_ok ns (m := 100) (by omega) (by omega) T1
  obtain ⟨name, O3, t3, hNm, hn, ht3, T3, F3, e3⟩ := town_nameN ns (by omega) T2
  obtain ⟨l, rfl⟩ : ∃ l : Nat, d2 = l := ⟨d2.toNat, by omega⟩
  refine ⟨l, name, x, O3, t3, hNm, by omega, hn, hxl, hxc, by omega, T3, (F1.trans F2).trans F3, ?_⟩
  have hB : LibD.B__law_record [some (.scr (ns.map D.int)), some (.ob 0), some d, none] O = .ret (.tup [d, .int l, .str name, .str x]) O3 := by
    unfold LibD.B__law_record
    refine cs_nx (r1 := [some (.scr (ns.map D.int)), some (.ob 0), some d, some (.str x)]) (O1 := O1) ?_ ?_
    · have el : (lstE false (consA (constE (.str [])) (consA (constE (.str [97, 32, 98])) (consA (constE (.str [105, 116, 39, 115])) (consA (constE (.str [120])) (consA (constE (.str [32, 32, 116, 119, 111])) (consA (constE (.str [100, 105, 115, 107, 32, 123, 102, 117, 108, 108, 125])) (consA (op2 mulSD (constE (.str [119])) (constE (.int 80))) nilA)))))))) [some (.scr (ns.map D.int)), some (.ob 0), some d, none] O = .ok (.lst [.str [], .str [97, 32, 98], .str [105, 116, 39, 115], .str [120], .str [32, 32, 116, 119, 111], .str [100, 105, 115, 107, 32, 123, 102, 117, 108, 108, 125], .str W]) O := by
        rw [ev_lstE]
        simp only [ev_consA, ev_const, bind_ok', eW, ev_nilA, List.length_cons, List.length_nil]
        rw [if_pos (by rw [hs]; omega)]; rfl
      have ev0 : varE 0 [some (.scr (ns.map D.int)), some (.ob 0), some d, none] O = .ok (.scr (ns.map D.int)) O := by simp
      have ev1 : varE 1 [some (.scr (ns.map D.int)), some (.ob 0), some d, none] O = .ok (.ob 0) O := by simp
      rw [ev_setS, ev_fnE, ev_consA, ev0, bind_ok', ev_consA, ev1, bind_ok', ev_consA, el]
      simp [e1]
    · simp [e2, e3, hs]
  simp [LibD.fn__law_record, runFn_eq, hB]
end Dn
set_option Elab.async false
set_option linter.all false
set_option maxRecDepth 100000
set_option maxHeartbeats 4000000
namespace Lk34
open Dn PySem
abbrev c_DEEP_MOST_gatetext : D := Lib.c_DEEP_MOST_gatetext
abbrev c_DEEP_MOST_names : D := Lib.c_DEEP_MOST_names
abbrev c_FIELDS : D := Lib.c_FIELDS
abbrev c_MARKS : D := Lib.c_MARKS
abbrev c_PART_MOST : D := Lib.c_PART_MOST
abbrev c_SIGNS_gatetext : D := Lib.c_SIGNS_gatetext
abbrev c_SIGNS_names : D := Lib.c_SIGNS_names
abbrev c_TOP_LEVEL : D := Lib.c_TOP_LEVEL
abbrev c_WIDE_MOST : D := Lib.c_WIDE_MOST
abbrev c_WORDS : D := Lib.c_WORDS
abbrev fn_Hall_init : Fn := Lib.fn_Hall_init
abbrev fn_Writer_init : Fn := Lib.fn_Writer_init
abbrev fn_read_field : Fn := Lib.fn_read_field
abbrev fn_with_text : Fn := Lib.fn_with_text
abbrev fn_read_form : Fn := Lib.fn_read_form
abbrev fn_tokens : Fn := Lib.fn_tokens
abbrev fn_Reader_init : Fn := Lib.fn_Reader_init
abbrev fn_Reader_next_word : Fn := Lib.fn_Reader_next_word
abbrev fn_Reader_fail : Fn := Lib.fn_Reader_fail
abbrev fn_Reader_pass_word : Fn := Lib.fn_Reader_pass_word
abbrev fn_is_name : Fn := Lib.fn_is_name
abbrev fn_Reader_asked : Fn := Lib.fn_Reader_asked
abbrev B_Reader_any_of : Fn → Fn → Fn → DS0 := Lib.B_Reader_any_of
abbrev fn_Reader_any_of : Nat → Fn := Lib.fn_Reader_any_of
abbrev B_Reader_all_of : Fn → Fn → Fn → DS0 := Lib.B_Reader_all_of
abbrev fn_Reader_all_of : Nat → Fn := Lib.fn_Reader_all_of
abbrev B_Reader_one : Fn → Fn → Fn → DS0 := Lib.B_Reader_one
abbrev fn_Reader_one : Nat → Fn := Lib.fn_Reader_one
abbrev fn_read_gate : Fn := Lib.fn_read_gate
abbrev fn_Hall_add_writer : Fn := Lib.fn_Hall_add_writer
abbrev fn_Hall_close : Fn := Lib.fn_Hall_close
abbrev fn_Hall_writer_at : Fn := Lib.fn_Hall_writer_at
abbrev fn_Hall_rows : Fn := Lib.fn_Hall_rows
abbrev fn_Hall_set_level : Fn := Lib.fn_Hall_set_level
abbrev fn_Hall_take_away : Fn := Lib.fn_Hall_take_away
abbrev fn__law_draw : Fn := Lib.fn__law_draw
abbrev fn__law_pick : Fn := Lib.fn__law_pick
abbrev fn__law_name : Fn := LibD.fn__law_name
abbrev B__law_gate : Fn → DS0 := LibD.B__law_gate
abbrev fn__law_gate : Nat → Fn := LibD.fn__law_gate
abbrev fn__law_record : Fn := LibD.fn__law_record
def Q__law_refused_1 : DS0 :=
  (tryS2 3 4 (exprS (methE 5 5 fn_Hall_add_writer (varE 0) (consA (varE 1) (consA (constE (.int 0)) (consA (varE 6) (consA (varE 7) nilA)))))) (setS 3 (op2 (addD false) (varE 3) (constE (.int 1)))) (setS 3 (op2 (addD false) (varE 3) (constE (.int 10)))))
def Q__law_refused_2 : DS0 :=
  (tryS 5 (ifS (cmpT eqD (varE 8) (constE (.str [116, 97, 107, 101])))
    (exprS (methE 5 2 fn_Hall_take_away (varE 0) (consA (constE (.int 99)) nilA)))
    (exprS (methE 5 2 fn_Hall_rows (varE 0) (consA (constE (.int 99)) nilA)))) (setS 3 (op2 (addD false) (varE 3) (constE (.int 100)))))
def B__law_refused : DS0 :=
  (consS (parS 3 4 (consA (constE (.int 0)) (consA (lcE false (seqI (varE 2)) (nameG 5) yesT (methE 5 2 fn_Hall_rows (varE 0) (consA (varE 5) nilA)) [5]) nilA)))
    (consS (forS (seqI (tupE (consA (tupE (consA (constE (.str [109, 97, 121, 98, 101])) (consA (constE (.str [123])) nilA))) (consA (tupE (consA (constE (.str [121, 101, 115])) (consA (constE (.str [123, 120, 125])) nilA))) nilA)))) (tupG 2 (consG (nameG 6) (consG (nameG 7) nilG)))
    Q__law_refused_1)
    (consS (forS (seqI (tupE (consA (constE (.str [116, 97, 107, 101])) (consA (constE (.str [114, 111, 119, 115])) nilA)))) (nameG 8)
    Q__law_refused_2)
    (retS (andE (op2 eqD (varE 3) (constE (.int 211))) (op2 eqD (lcE false (seqI (varE 2)) (nameG 5) yesT (methE 5 2 fn_Hall_rows (varE 0) (consA (varE 5) nilA)) [5]) (varE 4)))))))
def fn__law_refused : Fn := runFn 9 B__law_refused
abbrev fn_above : Fn := Lib.fn_above
abbrev fn_Hall_level_of : Fn := Lib.fn_Hall_level_of
abbrev fn_Hall_is_told : Fn := Lib.fn_Hall_is_told
abbrev fn_Hall_ways : Fn := Lib.fn_Hall_ways
abbrev fn_level_word : Fn := Lib.fn_level_word
abbrev fn_field_text : Fn := Lib.fn_field_text
abbrev fn_laid_part : Fn := Lib.fn_laid_part
abbrev fn_laid : Fn := Lib.fn_laid
abbrev fn_is_under : Fn := Lib.fn_is_under
abbrev B_passes : Fn → DS0 := Lib.B_passes
abbrev fn_passes : Nat → Fn := Lib.fn_passes
abbrev fn_Writer_take : Fn := Lib.fn_Writer_take
abbrev fn_Hall_tell : Fn := Lib.fn_Hall_tell
def Q__law_due_1 : DS0 :=
  (consS (asgS (tupG 4 (consG (nameG 7) (consG (nameG 8) (consG (nameG 9) (consG (nameG 10) nilG))))) (op2 ixD (varE 1) (varE 6)))
    (ifS (andT (cmpT eqD (varE 7) (varE 5)) (andT (cmpT leD (varE 8) (op2 ixD (varE 3) (constE (.int 1)))) (truT (fnE 2 (closeFn (fn_passes 100)) (consA (varE 9) (consA (varE 3) nilA))))))
    (setS 4 (op2 (addD false) (varE 4) (tupE (consA (varE 6) nilA))))
    nilS))
def Q__law_due_2 : DS0 :=
  (consS (forS (seqI (callE (sortedF false) (consA (varE 1) nilA))) (nameG 6)
    Q__law_due_1)
    (ifS (truT (getE2 (varE 2) (varE 5) (constE (.bl false))))
    (retS (varE 4))
    nilS))
def B__law_due : DS0 :=
  (consS (ifS (notT (truT (methE 5 3 fn_Hall_is_told (varE 0) (consA (op2 ixD (varE 3) (constE (.int 2))) (consA (op2 ixD (varE 3) (constE (.int 1))) nilA)))))
    (retS (tupE nilA))
    nilS)
    (consS (setS 4 (tupE nilA))
    (consS (forS (seqI (op2 (addD false) (tupE (consA (op2 ixD (varE 3) (constE (.int 2))) nilA)) (fnE 1 (closeFn fn_above) (consA (op2 ixD (varE 3) (constE (.int 2))) nilA)))) (nameG 5)
    Q__law_due_2)
    (retS (varE 4)))))
def fn__law_due : Fn := runFn 11 B__law_due
def Q__law_told_holds_1 : DS0 :=
  (consS (setS 7 (ifE (cmpT (inB false) (varE 5) (varE 6)) (tupE (consA (fnE 2 (closeFn fn_laid) (consA (op2 ixD (op2 ixLD (varE 1) (varE 5)) (constE (.int 3))) (consA (varE 3) nilA))) nilA)) (tupE nilA)))
    (ifS (cmpT neD (methE 5 2 fn_Hall_rows (varE 0) (consA (varE 5) nilA)) (op2 (addD false) (op2 ixD (varE 4) (varE 5)) (varE 7)))
    (retS (constE (.bl false)))
    nilS))
noncomputable def B__law_told_holds : DS0 :=
  (consS (setS 4 (callE dictF (consA (lcKE false (varE 1) (nameG 5) yesT (tupE (consA (varE 5) (consA (methE 5 2 fn_Hall_rows (varE 0) (consA (varE 5) nilA)) nilA))) [5]) nilA)))
    (consS (setS 6 (fnE 4 fn__law_due (consA (varE 0) (consA (varE 1) (consA (varE 2) (consA (varE 3) nilA))))))
    (consS (ifS (cmpT neD (methE 5 2 fn_Hall_tell (varE 0) (consA (varE 3) nilA)) (varE 6))
    (retS (constE (.bl false)))
    nilS)
    (consS (forKyS (varE 1) (nameG 5)
    Q__law_told_holds_1)
    (retS (constE (.bl true)))))))
noncomputable def fn__law_told_holds : Fn := runFn 8 B__law_told_holds
abbrev fn_strength : Fn := Lib.fn_strength
abbrev B_shown_within : Fn → Fn → DS0 := Lib.B_shown_within
abbrev fn_shown_within : Nat → Fn := Lib.fn_shown_within
abbrev B_shown : Fn → Fn → DS0 := Lib.B_shown
abbrev fn_shown : Nat → Fn := Lib.fn_shown
noncomputable def Q_law_1 : DS0 :=
  (consS (asgS (tupG 2 (consG (nameG 9) (consG (nameG 10) nilG))) (tupE (consA (fnE 2 fn__law_name (consA (varE 0) (consA (varE 1) nilA))) (consA (fnE 3 fn__law_draw (consA (varE 0) (consA (varE 1) (consA (constE (.int 7)) nilA)))) nilA))))
    (consS (ifS (notT (truT (fnE 3 fn__law_refused (consA (varE 4) (consA (varE 9) (consA (callE (listKF false) (consA (varE 5) nilA)) nilA))))))
    (retS (constE (.bl false)))
    nilS)
    (consS (ifS (cmpT ltD (varE 10) (constE (.int 2)))
    (consS (setS 11 (fnE 3 fn__law_pick (consA (varE 0) (consA (varE 1) (consA (lstE false (consA (tupE (consA (constE (.str [121, 101, 115])) nilA)) (consA (fnE 3 (fn__law_gate 100) (consA (varE 0) (consA (varE 1) (consA (constE (.int 1)) nilA)))) nilA))) nilA)))))
    (consS (setS 12 (fnE 3 fn__law_pick (consA (varE 0) (consA (varE 1) (consA (lstE false (consA (constE (.int 0)) (consA (fnE 3 fn__law_draw (consA (varE 0) (consA (varE 1) (consA (constE (.int 60)) nilA)))) nilA))) nilA)))))
    (consS (asgS (tupG 2 (consG (nameG 7) (consG (nameG 13) nilG))) (tupE (consA (op2 (addD false) (varE 7) (constE (.int 1))) (consA (tupE (consA (varE 9) (consA (varE 12) (consA (varE 11) (consA (constE (.str [123, 109, 111, 109, 101, 110, 116, 125, 32, 123, 119, 111, 114, 100, 115, 61, 57, 125])) nilA))))) nilA))))
    (consS (ifS (cmpT neD (lcE false (seqI (tupE (consA (varE 3) (consA (varE 4) nilA)))) (nameG 14) yesT (methE 5 5 fn_Hall_add_writer (varE 14) (consA (varE 9) (consA (varE 12) (consA (fnE 1 (closeFn (fn_shown 100)) (consA (varE 11) nilA)) (consA (op2 ixD (varE 13) (constE (.int 3))) nilA))))) [14]) (lstE false (consA (varE 7) (consA (varE 7) nilA))))
    (retS (constE (.bl false)))
    nilS)
    (asgS (subG (varE 5) (varE 7)) (varE 13))))))
    (ifS (andT (cmpT eqD (varE 10) (constE (.int 2))) (andT (truT (varE 5)) (truT (fnE 3 fn__law_draw (consA (varE 0) (consA (varE 1) (consA (constE (.int 2)) nilA)))))))
    (consS (setS 15 (fnE 3 fn__law_pick (consA (varE 0) (consA (varE 1) (consA (callE (sortedF false) (consA (varE 5) nilA)) nilA)))))
    (consS (exprS (popE (varE 5) (varE 15)))
    (consS (exprS (methE 5 2 fn_Hall_take_away (varE 3) (consA (varE 15) nilA)))
    (exprS (methE 5 2 fn_Hall_take_away (varE 4) (consA (varE 15) nilA))))))
    (ifS (cmpT eqD (varE 10) (constE (.int 3)))
    (consS (asgS (subG (varE 6) (varE 9)) (op2 eqD (fnE 3 fn__law_draw (consA (varE 0) (consA (varE 1) (consA (constE (.int 2)) nilA)))) (constE (.int 0))))
    (consS (exprS (methE 5 3 fn_Hall_close (varE 3) (consA (varE 9) (consA (op2 ixD (varE 6) (varE 9)) nilA))))
    (exprS (methE 5 3 fn_Hall_close (varE 4) (consA (varE 9) (consA (op2 ixD (varE 6) (varE 9)) nilA))))))
    (ifS (cmpT eqD (varE 10) (constE (.int 4)))
    (consS (exprS (methE 5 3 fn_Hall_set_level (varE 3) (consA (varE 9) (consA (varE 8) nilA))))
    (exprS (methE 5 3 fn_Hall_set_level (varE 4) (consA (varE 9) (consA (varE 8) nilA)))))
    nilS))))
    (consS (setS 16 (fnE 3 fn__law_record (consA (varE 0) (consA (varE 1) (consA (varE 8) nilA)))))
    (consS (ifS (orT (notT (truT (fnE 4 fn__law_told_holds (consA (varE 3) (consA (varE 5) (consA (varE 6) (consA (varE 16) nilA))))))) (notT (truT (fnE 4 fn__law_told_holds (consA (varE 4) (consA (varE 5) (consA (varE 6) (consA (varE 16) nilA))))))))
    (retS (constE (.bl false)))
    nilS)
    (ifS (truT (callE anyF (consA (lcKE false (varE 5) (nameG 15) yesT (op2 neD (methE 5 2 fn_Hall_rows (varE 3) (consA (varE 15) nilA)) (methE 5 2 fn_Hall_rows (varE 4) (consA (varE 15) nilA))) [15]) nilA)))
    (retS (constE (.bl false)))
    nilS))))))
noncomputable def Q_law_2 : DS0 :=
  (consS (asgS (tupG 5 (consG (nameG 3) (consG (nameG 4) (consG (nameG 5) (consG (nameG 6) (consG (nameG 7) nilG)))))) (tupE (consA (makeE 5 1 fn_Hall_init nilA) (consA (makeE 5 1 fn_Hall_init nilA) (consA dic0E (consA dic0E (consA (constE (.int 0)) nilA)))))))
    (forS (callI range1F (consA (constE (.int 22)) nilA)) (nameG 8)
    Q_law_1))
noncomputable def B_law : DS0 :=
  (consS (setS 1 (lstE true nilA))
    (consS (forS (callI range1F (consA (constE (.int 2)) nilA)) (nameG 2)
    Q_law_2)
    (retS (constE (.bl true)))))
noncomputable def fn_law : Fn := runFn 17 B_law
end Lk34
set_option linter.all false
set_option maxRecDepth 100000
set_option maxHeartbeats 4000000
namespace Lk34
open Dn PySem
def isC (c : Nat) : ER → Bool | .exc e _ => e.cls == c && noObF e.fs | _ => false
theorem isC_ex {c : Nat} {f : Fn} {ds : List D} (h0 : noObL ds = true) (h : isC c (f ds []) = true) : ∃ fs, ∀ O, closeFn f ds O = .exc ⟨c, fs⟩ O := by
  unfold isC at h
  split at h
  · rename_i e O' q
    obtain ⟨k, fs⟩ := e
    simp only [Bool.and_eq_true, beq_iff_eq] at h
    obtain ⟨rfl, h⟩ := h
    exact ⟨fs, fun O => close_exc h0 q h⟩
  · cases h
theorem maybe_no : isC 3 (Lib.fn_read_gate [.str [109, 97, 121, 98, 101]] []) = true := by decide +kernel
theorem brace_no : isC 4 (Lib.fn_read_form [.str [123, 120, 125]] []) = true := by decide +kernel
/-- rows compared -/
def rowsD (es : List En) : List D := es.map fun e => D.tup (e.r.map D.str)
structure RowsOk (es : List En) : Prop where
  c : ∀ e ∈ es, ∀ t ∈ e.r, ∀ c ∈ t, c < 1114112
theorem okN_row {r : List Tx} (h : ∀ t ∈ r, ∀ c ∈ t, c < 1114112) : okN 2 (.tup (r.map D.str)) = true := okN_tup (n := 1) fun d hd => by
  obtain ⟨t, ht, rfl⟩ := List.mem_map.mp hd
  exact okN_str t (h t ht)
theorem eq_rows {es : List En} (h : RowsOk es) (O : Sto) : eqD (.lst (rowsD es)) (.lst (rowsD es)) O = .ok (.bl true) O :=
  eqD_same (n := 3) (by omega) (okN_ls fun d hd => by
    obtain ⟨e, he, rfl⟩ := List.mem_map.mp hd
    exact okN_row (h.c e he)) rfl rfl
section
variable {bd : Nat} {X : Hd} {O : Sto}
abbrev envF (h : Nat) (nm : Tx) (nl : List D) (x3 x4 x5 x6 x7 x8 : Option D) : Rho := [some (.ob h), some (.str nm), some (.lst nl), x3, x4, x5, x6, x7, x8]
theorem lc_rows (A : HB bd X O) (nm : Tx) (x3 x4 x5 x6 x7 x8 : Option D) : lcE false (seqI (varE 2)) (nameG 5) yesT (methE 5 2 fn_Hall_rows (varE 0) (consA (varE 5) nilA)) [5] (envF X.h nm (X.es.map fun e => D.int e.k) x3 x4 x5 x6 x7 x8) O = .ok (.lst (rowsD X.es)) O := by
  have hs : sizeLine = 16777216 := sizeLine_nat
  have hel := A.el
  have hwl := A.wl
  have lc := lcL_map (t := nameG 5) (el := methE 5 2 fn_Hall_rows (varE 0) (consA (varE 5) nilA)) (st := []) (r := envF X.h nm (X.es.map fun e => D.int e.k) x3 x4 none x6 x7 x8) (O := O) (fun e : En => D.int e.k) (fun e : En => D.tup (e.r.map D.str)) rfl X.es []
    (fun e he => ⟨_, rfl, by
      have := rowsB A he
      have h5 := A.h
      simp [h5, hC, this]⟩) (by simp [hs]; omega)
  have es : seqI (varE 2) (envF X.h nm (X.es.map fun e => D.int e.k) x3 x4 x5 x6 x7 x8) O = .ok ⟨X.es.map fun e => D.int e.k, []⟩ O := by simp
  rw [ev_lcE, es, bind_ok']
  have lc' : lcL (nameG 5) yesT (methE 5 2 fn_Hall_rows (varE 0) (consA (varE 5) nilA)) [] (wipeR (envF X.h nm (X.es.map fun e => D.int e.k) x3 x4 x5 x6 x7 x8) [5]) (X.es.map fun e => D.int e.k) [] O = _ := lc
  rw [lc', bind_ok']; rfl
theorem refused_ok (A : HB bd X O) (nm : Tx) (hn : X.n < 99) (hr : RowsOk X.es) : fn__law_refused [.ob X.h, .str nm, .lst (X.es.map fun e => D.int e.k)] O = .ok (.bl true) O := by
  have hs : sizeLine = 16777216 := sizeLine_nat
  obtain ⟨f1, g1⟩ := isC_ex rfl maybe_no
  obtain ⟨f2, g2⟩ := isC_ex rfl brace_no
  have gy : ∀ O, closeFn Lib.fn_read_gate [.str [121, 101, 115]] O = .ok (gateD .yes) O := fun O => readg_ok (g := .yes) rfl (by decide) O
  have a1 := addB_gate A (fx := [123]) g1 nm (.int 0)
  have a2 := addB_form A gy g2 nm (.int 0)
  have no : ∀ e ∈ X.es, e.k ≠ 99 := fun e he z => by have := (A.kn e he).2; omega
  have b1 := awayB_no A no
  have b2 := rowsB_no A no
  have h5 : O[X.h]? = some (.ins 5 [(16, .ob X.l), (17, .ob X.c), (18, .ob X.w), (0, .int X.n), (19, .int X.s)]) := A.h
  have l1 := fun x3 x4 x5 x6 x7 x8 => lc_rows A nm x3 x4 x5 x6 x7 x8
  have er := eq_rows hr O
  generalize hNL : (X.es.map fun e => D.int e.k) = NL at *
  generalize rowsD X.es = RW at *
  have hB : B__law_refused (envF X.h nm NL none none none none none none) O = .ret (.bl true) O := by
    unfold B__law_refused
    refine cs_nx (r1 := envF X.h nm NL (some (.int 0)) (some (.lst RW)) none none none none) (O1 := O) ?_ ?_
    · unfold parS
      rw [ev_consA, ev_const, bind_ok', ev_consA, l1, bind_ok', ev_nilA, bind_ok', bind_ok', bindS_ok']; rfl
    have t1 : Q__law_refused_1 (envF X.h nm NL (some (.int 0)) (some (.lst RW)) none (some (.str [109, 97, 121, 98, 101])) (some (.str [123])) none) O = .nx (envF X.h nm NL (some (.int 1)) (some (.lst RW)) none (some (.str [109, 97, 121, 98, 101])) (some (.str [123])) none) O := by
      unfold Q__law_refused_1 tryS2
      have : exprS (methE 5 5 fn_Hall_add_writer (varE 0) (consA (varE 1) (consA (constE (.int 0)) (consA (varE 6) (consA (varE 7) nilA))))) (envF X.h nm NL (some (.int 0)) (some (.lst RW)) none (some (.str [109, 97, 121, 98, 101])) (some (.str [123])) none) O = .exc ⟨3, f1⟩ (envF X.h nm NL (some (.int 0)) (some (.lst RW)) none (some (.str [109, 97, 121, 98, 101])) (some (.str [123])) none) O := by simp [h5, a1]
      rw [this]
      simp
    have t2 : Q__law_refused_1 (envF X.h nm NL (some (.int 1)) (some (.lst RW)) none (some (.str [121, 101, 115])) (some (.str [123, 120, 125])) none) O = .nx (envF X.h nm NL (some (.int 11)) (some (.lst RW)) none (some (.str [121, 101, 115])) (some (.str [123, 120, 125])) none) O := by
      unfold Q__law_refused_1 tryS2
      have : exprS (methE 5 5 fn_Hall_add_writer (varE 0) (consA (varE 1) (consA (constE (.int 0)) (consA (varE 6) (consA (varE 7) nilA))))) (envF X.h nm NL (some (.int 1)) (some (.lst RW)) none (some (.str [121, 101, 115])) (some (.str [123, 120, 125])) none) O = .exc ⟨4, f2⟩ (envF X.h nm NL (some (.int 1)) (some (.lst RW)) none (some (.str [121, 101, 115])) (some (.str [123, 120, 125])) none) O := by simp [h5, a2]
      rw [this]
      simp
    refine cs_nx (r1 := envF X.h nm NL (some (.int 11)) (some (.lst RW)) none (some (.str [121, 101, 115])) (some (.str [123, 120, 125])) none) (O1 := O) ?_ ?_
    · have es : seqI (tupE (consA (tupE (consA (constE (.str [109, 97, 121, 98, 101])) (consA (constE (.str [123])) nilA))) (consA (tupE (consA (constE (.str [121, 101, 115])) (consA (constE (.str [123, 120, 125])) nilA))) nilA))) (envF X.h nm NL (some (.int 0)) (some (.lst RW)) none none none none) O = .ok ⟨[.tup [.str [109, 97, 121, 98, 101], .str [123]], .tup [.str [121, 101, 115], .str [123, 120, 125]]], []⟩ O := by simp [hs]
      rw [ev_forS, es, bindS_ok']
      refine Lk10.forL_go (r1 := envF X.h nm NL (some (.int 0)) (some (.lst RW)) none (some (.str [109, 97, 121, 98, 101])) (some (.str [123])) none) (O1 := O) rfl (.inl t1) ?_
      refine Lk10.forL_go (r1 := envF X.h nm NL (some (.int 1)) (some (.lst RW)) none (some (.str [121, 101, 115])) (some (.str [123, 120, 125])) none) (O1 := O) rfl (.inl t2) ?_
      simp [forL]
    have t3 : Q__law_refused_2 (envF X.h nm NL (some (.int 11)) (some (.lst RW)) none (some (.str [121, 101, 115])) (some (.str [123, 120, 125])) (some (.str [116, 97, 107, 101]))) O = .nx (envF X.h nm NL (some (.int 111)) (some (.lst RW)) none (some (.str [121, 101, 115])) (some (.str [123, 120, 125])) (some (.str [116, 97, 107, 101]))) O := by
      unfold Q__law_refused_2 tryS
      have : (ifS (cmpT eqD (varE 8) (constE (.str [116, 97, 107, 101])))
        (exprS (methE 5 2 fn_Hall_take_away (varE 0) (consA (constE (.int 99)) nilA)))
        (exprS (methE 5 2 fn_Hall_rows (varE 0) (consA (constE (.int 99)) nilA)))) (envF X.h nm NL (some (.int 11)) (some (.lst RW)) none (some (.str [121, 101, 115])) (some (.str [123, 120, 125])) (some (.str [116, 97, 107, 101]))) O = .exc ⟨5, []⟩ (envF X.h nm NL (some (.int 11)) (some (.lst RW)) none (some (.str [121, 101, 115])) (some (.str [123, 120, 125])) (some (.str [116, 97, 107, 101]))) O := by
        refine if_t (O1 := O) (by simp) ?_
        have b1 : fn_Hall_take_away [.ob X.h, .int 99] O = .exc ⟨5, []⟩ O := b1
        simp [h5, b1]
      rw [this]
      simp
    have t4 : Q__law_refused_2 (envF X.h nm NL (some (.int 111)) (some (.lst RW)) none (some (.str [121, 101, 115])) (some (.str [123, 120, 125])) (some (.str [114, 111, 119, 115]))) O = .nx (envF X.h nm NL (some (.int 211)) (some (.lst RW)) none (some (.str [121, 101, 115])) (some (.str [123, 120, 125])) (some (.str [114, 111, 119, 115]))) O := by
      unfold Q__law_refused_2 tryS
      have : (ifS (cmpT eqD (varE 8) (constE (.str [116, 97, 107, 101])))
        (exprS (methE 5 2 fn_Hall_take_away (varE 0) (consA (constE (.int 99)) nilA)))
        (exprS (methE 5 2 fn_Hall_rows (varE 0) (consA (constE (.int 99)) nilA)))) (envF X.h nm NL (some (.int 111)) (some (.lst RW)) none (some (.str [121, 101, 115])) (some (.str [123, 120, 125])) (some (.str [114, 111, 119, 115]))) O = .exc ⟨5, []⟩ (envF X.h nm NL (some (.int 111)) (some (.lst RW)) none (some (.str [121, 101, 115])) (some (.str [123, 120, 125])) (some (.str [114, 111, 119, 115]))) O := by
        refine if_f (O1 := O) (by simp) ?_
        have b2 : fn_Hall_rows [.ob X.h, .int 99] O = .exc ⟨5, []⟩ O := b2
        simp [h5, b2]
      rw [this]
      simp
    refine cs_nx (r1 := envF X.h nm NL (some (.int 211)) (some (.lst RW)) none (some (.str [121, 101, 115])) (some (.str [123, 120, 125])) (some (.str [114, 111, 119, 115]))) (O1 := O) ?_ ?_
    · have es : seqI (tupE (consA (constE (.str [116, 97, 107, 101])) (consA (constE (.str [114, 111, 119, 115])) nilA))) (envF X.h nm NL (some (.int 11)) (some (.lst RW)) none (some (.str [121, 101, 115])) (some (.str [123, 120, 125])) none) O = .ok ⟨[.str [116, 97, 107, 101], .str [114, 111, 119, 115]], []⟩ O := by simp [hs]
      rw [ev_forS, es, bindS_ok']
      refine Lk10.forL_go (r1 := envF X.h nm NL (some (.int 11)) (some (.lst RW)) none (some (.str [121, 101, 115])) (some (.str [123, 120, 125])) (some (.str [116, 97, 107, 101]))) (O1 := O) rfl (.inl t3) ?_
      refine Lk10.forL_go (r1 := envF X.h nm NL (some (.int 111)) (some (.lst RW)) none (some (.str [121, 101, 115])) (some (.str [123, 120, 125])) (some (.str [114, 111, 119, 115]))) (O1 := O) rfl (.inl t4) ?_
      simp [forL]
    have e2 : op2 eqD (lcE false (seqI (varE 2)) (nameG 5) yesT (methE 5 2 fn_Hall_rows (varE 0) (consA (varE 5) nilA)) [5]) (varE 4) (envF X.h nm NL (some (.int 211)) (some (.lst RW)) none (some (.str [121, 101, 115])) (some (.str [123, 120, 125])) (some (.str [114, 111, 119, 115]))) O = .ok (.bl true) O := by
      rw [ev_op2, l1, bind_ok']
      have : varE 4 (envF X.h nm NL (some (.int 211)) (some (.lst RW)) none (some (.str [121, 101, 115])) (some (.str [123, 120, 125])) (some (.str [114, 111, 119, 115]))) O = .ok (.lst RW) O := by simp
      rw [this, bind_ok', er]
    rw [ev_retS]
    have e3 : andE (op2 eqD (varE 3) (constE (.int 211))) (op2 eqD (lcE false (seqI (varE 2)) (nameG 5) yesT (methE 5 2 fn_Hall_rows (varE 0) (consA (varE 5) nilA)) [5]) (varE 4)) (envF X.h nm NL (some (.int 211)) (some (.lst RW)) none (some (.str [121, 101, 115])) (some (.str [123, 120, 125])) (some (.str [114, 111, 119, 115]))) O = .ok (.bl true) O := by
      have e1 : op2 eqD (varE 3) (constE (.int 211)) (envF X.h nm NL (some (.int 211)) (some (.lst RW)) none (some (.str [121, 101, 115])) (some (.str [123, 120, 125])) (some (.str [114, 111, 119, 115]))) O = .ok (.bl true) O := by simp
      unfold andE
      rw [e1, bind_ok']
      exact e2
    rw [e3]; rfl
  exact run_ret2 hB
end
end Lk34
set_option linter.all false
set_option maxRecDepth 100000
set_option maxHeartbeats 4000000
namespace Lk34
open Dn PySem
/-- the law's own book of the writers -/
def kkB (f : En → D) (es : List En) : List (DKey × D) := es.map fun e => (.inl (e.k : Int), f e)
def wlD (e : En) : D := .tup [.str e.x.nm, .int e.x.ls, gateD e.x.g, .str e.x.f]
theorem kk_at {f : En → D} : ∀ {es : List En} {e : En}, es.Pairwise (fun a b => a.k < b.k) → e ∈ es → getK (kkB f es) (.inl (e.k : Int)) = some (f e)
  | [], e, _, h => by cases h
  | a :: es, e, hp, h => by
    rw [List.pairwise_cons] at hp
    rcases List.mem_cons.mp h with rfl | h
    · simp [getK, kkB]
    · have : a.k < e.k := hp.1 e h
      have ih := kk_at (f := f) hp.2 h
      unfold getK kkB at ih ⊢
      rw [List.map_cons, List.find?_cons_of_neg (by simpa using fun z : (a.k : Int) = (e.k : Int) => by omega)]
      exact ih
theorem kk_keys (f : En → D) (es : List En) : keysL (kkB f es) = es.map fun e => D.int e.k := by
  simp only [keysL, kkB, List.map_map]; rfl
theorem kk_int (f : En → D) : ∀ es : List En, intKeys (kkB f es) = some (es.map fun e => (e.k : Int))
  | [] => rfl
  | e :: es => by
    have := kk_int f es
    simp only [kkB, List.map_cons, intKeys] at this ⊢
    rw [this]; rfl
theorem sorted_kk {W : Nat} {f : En → D} {es : List En} {O : Sto} (hw : O[W]? = some (.dic (kkB f es))) (hi : es.Pairwise fun a b => a.k < b.k) (hl : es.length < 64) : sortedF false [.ob W] O = .ok (.lst (es.map fun e => D.int e.k)) O := by
  have hd : dicOf (.ob W) O = some (W, kkB f es) := by simp [dicOf, hw]
  cases es with
  | nil =>
    have e0 : sortS [] = [] := List.mergeSort_of_pairwise (by simp)
    simp [sortedF, hd, kkB, strKeys, mkL, e0]
  | cons e es =>
    have h1 : strKeys (kkB f (e :: es)) = none := rfl
    have h2 := kk_int f (e :: es)
    have h3 : (e :: es).map (fun e => (e.k : Int)) = sortI ((e :: es).map fun e => (e.k : Int)) := sortI_is (List.Perm.refl _) (by
      rw [List.pairwise_map]
      exact hi.imp fun h => by omega)
    unfold sortedF
    simp only [hd, h1, h2]
    rw [if_pos (by simpa using hl), ← h3]
    simp [mkL]
section
variable {bd : Nat} {X : Hd} {O : Sto}
abbrev envDu (h W V : Nat) (rd : D) (F : List Nat) (x5 x6 x7 x8 x9 x10 : Option D) : Rho := [some (.ob h), some (.ob W), some (.ob V), some rd, some (.tup (numsB F)), x5, x6, x7, x8, x9, x10]
theorem due1 {m lv : Nat} {name words : Tx} (R : Rs m lv name words) {es : List En} (hi : es.Pairwise fun a b => a.k < b.k) {W : Nat} (hw : O[W]? = some (.dic (kkB wlD es))) {e : En} (he : e ∈ es) (Wo : WrOk e.x) (h V : Nat) (nm : Tx) (F : List Nat) (hF : F.length ≤ 10000) (x7 x8 x9 x10 : Option D) :
    ∃ y7 y8 y9 y10, Q__law_due_1 (envDu h W V (recD m lv name words) F (some (.str nm)) (some (.int e.k)) x7 x8 x9 x10) O = .nx (envDu h W V (recD m lv name words) (F ++ selB lv name words [e] nm) (some (.str nm)) (some (.int e.k)) y7 y8 y9 y10) O := by
  have hs : sizeLine = 16777216 := sizeLine_nat
  have hnl := R.n
  have hwl := R.w
  have hg := kk_at (f := wlD) hi he
  have hp := passes_ok (m : Int) (lv : Int) name words hnl (by omega) 100 e.x.g (by have := gdep_lt e.x.g; have := Wo.gz; omega) (gok_of e.x.g Wo.gf)
  have hp : ∀ O, closeFn (fn_passes 100) [gateD e.x.g, recD m lv name words] O = .ok (.bl (gev (lv : Int) name words e.x.g)) O := hp
  have hx1 : ∀ O, ixD (recD m lv name words) (.int 1) O = .ok (.int (lv : Nat)) O := fun O => rfl
  have hix : ixD (.ob W) (.int (e.k : Int)) O = .ok (.tup [.str e.x.nm, .int e.x.ls, gateD e.x.g, .str e.x.f]) O := by rw [ix_obD hw]; simp [keyD, hg, wlD]
  have hq : eqD (.str e.x.nm) (.str nm) O = .ok (.bl (e.x.nm == nm)) O := by simp
  have ad : addD false (.tup (numsB F)) (.tup [.int (e.k : Int)]) O = .ok (.tup (numsB (F ++ [e.k]))) O := by
    simp [addD, hs, numsB]; omega
  refine ⟨some (.str e.x.nm), some (.int e.x.ls), some (gateD e.x.g), some (.str e.x.f), ?_⟩
  generalize recD m lv name words = RD at *
  generalize gateD e.x.g = GD at *
  unfold Q__law_due_1
  refine cs_nx (r1 := envDu h W V RD F (some (.str nm)) (some (.int e.k)) (some (.str e.x.nm)) (some (.int e.x.ls)) (some GD) (some (.str e.x.f))) (O1 := O) (by simp [hix, tupG, seqR]) ?_
  have hsel : selB lv name words [e] nm = if tkB lv name words nm e then [e.k] else [] := by
    simp only [selB, List.filter_cons, List.filter_nil]; split <;> rfl
  rw [hsel]
  cases q1 : (e.x.nm == nm) with
  | false =>
    rw [q1] at hq
    have ht : tkB lv name words nm e = false := by simp [tkB, q1]
    rw [ht]
    simp only [Bool.false_eq_true, if_false, List.append_nil]
    exact if_f (O1 := O) (by simp [hq]) rfl
  | true =>
    rw [q1] at hq
    by_cases q2 : e.x.ls ≤ lv
    · cases q3 : gev (lv : Int) name words e.x.g with
      | true =>
        rw [q3] at hp
        have ht : tkB lv name words nm e = true := by simp [tkB, q1, tk, q2, q3]
        rw [ht, if_pos rfl]
        refine if_t (O1 := O) (by simp [hq, hx1, hp, q2, show (e.x.ls : Int) ≤ lv by omega]) ?_
        simp [ad, hs]
      | false =>
        rw [q3] at hp
        have ht : tkB lv name words nm e = false := by simp [tkB, q1, tk, q3]
        rw [ht]
        simp only [Bool.false_eq_true, if_false, List.append_nil]
        exact if_f (O1 := O) (by simp [hq, hx1, hp, q2, show (e.x.ls : Int) ≤ lv by omega]) rfl
    · have ht : tkB lv name words nm e = false := by simp [tkB, q1, tk, q2]
      rw [ht]
      simp only [Bool.false_eq_true, if_false, List.append_nil]
      exact if_f (O1 := O) (by simp [hq, hx1, q2, show ¬ (e.x.ls : Int) ≤ lv by omega]) rfl
theorem selB_cons (lv : Nat) (name words nm : Tx) (e : En) (es : List En) : selB lv name words (e :: es) nm = selB lv name words [e] nm ++ selB lv name words es nm := by
  simp only [selB]
  rw [← List.map_append, ← List.filter_append]; rfl
theorem due2 {m lv : Nat} {name words : Tx} (R : Rs m lv name words) {es : List En} (hi : es.Pairwise fun a b => a.k < b.k) {W : Nat} (hw : O[W]? = some (.dic (kkB wlD es))) (hWo : ∀ e ∈ es, WrOk e.x) (h V : Nat) (nm : Tx) : ∀ (suf : List En) (F : List Nat) (x6 x7 x8 x9 x10 : Option D), (∀ e ∈ suf, e ∈ es) → F.length + suf.length ≤ 10000 →
    ∃ y6 y7 y8 y9 y10, forL (nameG 6) Q__law_due_1 [] (suf.map fun e => D.int e.k) (envDu h W V (recD m lv name words) F (some (.str nm)) x6 x7 x8 x9 x10) O = .nx (envDu h W V (recD m lv name words) (F ++ selB lv name words suf nm) (some (.str nm)) y6 y7 y8 y9 y10) O
  | [], F, x6, x7, x8, x9, x10, _, _ => ⟨x6, x7, x8, x9, x10, by simp [forL, selB]⟩
  | e :: suf, F, x6, x7, x8, x9, x10, hm, hF => by
    simp only [List.length_cons] at hF
    obtain ⟨z7, z8, z9, z10, e1⟩ := due1 R hi hw (hm e (by simp)) (hWo e (hm e (by simp))) h V nm F (by omega) x7 x8 x9 x10
    have hl := selB_len lv name words [e] nm
    simp only [List.length_cons, List.length_nil] at hl
    obtain ⟨y6, y7, y8, y9, y10, e2⟩ := due2 R hi hw hWo h V nm suf (F ++ selB lv name words [e] nm) (some (.int e.k)) z7 z8 z9 z10 (fun y hy => hm y (by simp [hy])) (by rw [List.length_append]; omega)
    refine ⟨y6, y7, y8, y9, y10, ?_⟩
    rw [selB_cons, ← List.append_assoc, List.map_cons]
    exact Lk10.forL_go (r1 := envDu h W V (recD m lv name words) F (some (.str nm)) (some (.int e.k)) x7 x8 x9 x10) (O1 := O) rfl (.inl e1) e2
theorem due3 {m lv : Nat} {name words : Tx} (R : Rs m lv name words) {es : List En} (hi : es.Pairwise fun a b => a.k < b.k) {W V : Nat} (hw : O[W]? = some (.dic (kkB wlD es))) (hWo : ∀ e ∈ es, WrOk e.x) (hel : es.length < 64) {L : List (DKey × D)} {Cl : Tx → Bool} (hv : O[V]? = some (.dic L)) (hc : ∀ k, (getK L (.inr k)).getD (.bl false) = .bl (Cl k)) (h : Nat) :
    ∀ (ns : List Tx) (F : List Nat) (x5 x6 x7 x8 x9 x10 : Option D), F.length + ns.length * 64 ≤ 9000 →
    (∃ y5 y6 y7 y8 y9 y10, forL (nameG 5) Q__law_due_2 [] (ns.map D.str) (envDu h W V (recD m lv name words) F x5 x6 x7 x8 x9 x10) O = .nx (envDu h W V (recD m lv name words) (F ++ (waysL Cl ns).flatMap (selB lv name words es)) y5 y6 y7 y8 y9 y10) O) ∨
    forL (nameG 5) Q__law_due_2 [] (ns.map D.str) (envDu h W V (recD m lv name words) F x5 x6 x7 x8 x9 x10) O = .ret (.tup (numsB (F ++ (waysL Cl ns).flatMap (selB lv name words es)))) O
  | [], F, x5, x6, x7, x8, x9, x10, _ => .inl ⟨x5, x6, x7, x8, x9, x10, by simp [forL, waysL]⟩
  | n :: ns, F, x5, x6, x7, x8, x9, x10, hF => by
    have hs : sizeLine = 16777216 := sizeLine_nat
    simp only [List.length_cons] at hF
    obtain ⟨y6, y7, y8, y9, y10, e2⟩ := due2 R hi hw hWo h V n es F x6 x7 x8 x9 x10 (fun e he => he) (by omega)
    have hsl := selB_len lv name words es n
    have so := sorted_kk hw hi hel
    have ge : ∀ r, getE2 (varE 2) (varE 5) (constE (.bl false)) (envDu h W V (recD m lv name words) r (some (.str n)) y6 y7 y8 y9 y10) O = .ok (.bl (Cl n)) O := fun r => by
      have := hc n
      generalize recD m lv name words = RD
      simp [getE2, get2D, tyDic, dicOf, hv, keyD, this]
    have st1 : ∀ x : SR, (ifS (truT (getE2 (varE 2) (varE 5) (constE (.bl false)))) (retS (varE 4)) nilS) (envDu h W V (recD m lv name words) (F ++ selB lv name words es n) (some (.str n)) y6 y7 y8 y9 y10) O = x → Q__law_due_2 (envDu h W V (recD m lv name words) F (some (.str n)) x6 x7 x8 x9 x10) O = x := fun x hx => by
      unfold Q__law_due_2
      refine cs_nx (r1 := envDu h W V (recD m lv name words) (F ++ selB lv name words es n) (some (.str n)) y6 y7 y8 y9 y10) (O1 := O) ?_ hx
      have es' : seqI (callE (sortedF false) (consA (varE 1) nilA)) (envDu h W V (recD m lv name words) F (some (.str n)) x6 x7 x8 x9 x10) O = .ok ⟨es.map fun e => D.int e.k, []⟩ O := by
        generalize recD m lv name words = RD
        simp [so]
      rw [ev_forS, es', bindS_ok']; exact e2
    cases q : Cl n with
    | true =>
      refine .inr ?_
      have e : Q__law_due_2 (envDu h W V (recD m lv name words) F (some (.str n)) x6 x7 x8 x9 x10) O = .ret (.tup (numsB (F ++ selB lv name words es n))) O := st1 _ (if_t (O1 := O) (by rw [ev_truT, ge, q]; rfl) (by
        generalize recD m lv name words = RD
        simp [-List.map_append]))
      have hwy : waysL Cl (n :: ns) = [n] := by simp [waysL, q]
      rw [hwy, List.map_cons]
      unfold forL
      have st : nameG 5 (.str n) (envDu h W V (recD m lv name words) F x5 x6 x7 x8 x9 x10) O = some (envDu h W V (recD m lv name words) F (some (.str n)) x6 x7 x8 x9 x10, O) := rfl
      simp only [still_nil, if_true, st, e]
      simp
    | false =>
      have e : Q__law_due_2 (envDu h W V (recD m lv name words) F (some (.str n)) x6 x7 x8 x9 x10) O = .nx (envDu h W V (recD m lv name words) (F ++ selB lv name words es n) (some (.str n)) y6 y7 y8 y9 y10) O := st1 _ (if_f (O1 := O) (by rw [ev_truT, ge, q]; rfl) rfl)
      have hwy : waysL Cl (n :: ns) = n :: waysL Cl ns := by simp [waysL, q]
      rw [hwy, List.flatMap_cons, ← List.append_assoc, List.map_cons]
      rcases due3 R hi hw hWo hel hv hc h ns (F ++ selB lv name words es n) (some (.str n)) y6 y7 y8 y9 y10 (by rw [List.length_append]; omega) with ⟨z5, z6, z7, z8, z9, z10, k⟩ | k
      · exact .inl ⟨z5, z6, z7, z8, z9, z10, Lk10.forL_go (r1 := envDu h W V (recD m lv name words) F (some (.str n)) x6 x7 x8 x9 x10) (O1 := O) rfl (.inl e) k⟩
      · exact .inr (Lk10.forL_go (r1 := envDu h W V (recD m lv name words) F (some (.str n)) x6 x7 x8 x9 x10) (O1 := O) rfl (.inl e) k)
theorem due_ok {m lv : Nat} {name words : Tx} (R : Rs m lv name words) (hN : Nm name) (A : HB bd X O) {W V : Nat} (hw : O[W]? = some (.dic (kkB wlD X.es))) (hWo : ∀ e ∈ X.es, WrOk e.x) (hn : X.n < 64) {L : List (DKey × D)} (hv : O[V]? = some (.dic L)) (hc : ∀ k, (getK L (.inr k)).getD (.bl false) = .bl (X.Cl k)) :
    fn__law_due [.ob X.h, .ob W, .ob V, recD m lv name words] O = .ok (.tup (numsB (X.who lv name words))) O := by
  have hs : sizeLine = 16777216 := sizeLine_nat
  have hel := A.el
  have h6 := above_len6 hN
  have it2 := A.told_at R.n lv
  have ha := fun O => above_ok name R.n O
  have hab := above_short name R.n
  have h5 : O[X.h]? = some (.ins 5 [(16, .ob X.l), (17, .ob X.c), (18, .ob X.w), (0, .int X.n), (19, .int X.s)]) := A.h
  have hx1 : ∀ O, ixD (recD m lv name words) (.int 1) O = .ok (.int (lv : Nat)) O := fun O => rfl
  have hx2 : ∀ O, ixD (recD m lv name words) (.int 2) O = .ok (.str name) O := fun O => rfl
  have lp := due3 R A.inc hw hWo (by omega) hv hc X.h (name :: above name) [] none none none none none none (by simp; omega)
  simp only [List.nil_append] at lp
  have hB : B__law_due [some (.ob X.h), some (.ob W), some (.ob V), some (recD m lv name words), none, none, none, none, none, none, none] O = .ret (.tup (numsB (X.who lv name words))) O := by
    unfold B__law_due Hd.who Hd.ways
    cases q : X.goes lv name with
    | false =>
      rw [q] at it2
      refine cs_ret ?_
      generalize recD m lv name words = RD at *
      exact if_t (O1 := O) (by simp [h5, hx1, hx2, it2]) (by simp)
    | true =>
      rw [q] at it2
      simp only [if_true]
      refine cs_nx (r1 := [some (.ob X.h), some (.ob W), some (.ob V), some (recD m lv name words), none, none, none, none, none, none, none]) (O1 := O) ?_ ?_
      · generalize recD m lv name words = RD at *
        exact if_f (O1 := O) (by simp [h5, hx1, hx2, it2]) rfl
      refine cs_nx (r1 := envDu X.h W V (recD m lv name words) [] none none none none none none) (O1 := O) (by
        generalize recD m lv name words = RD at *
        simp) ?_
      have hsrc : seqI (op2 (addD false) (tupE (consA (op2 ixD (varE 3) (constE (.int 2))) nilA)) (fnE 1 (closeFn fn_above) (consA (op2 ixD (varE 3) (constE (.int 2))) nilA))) (envDu X.h W V (recD m lv name words) [] none none none none none none) O = .ok ⟨(name :: above name).map D.str, []⟩ O := by
        generalize recD m lv name words = RD at *
        simp [hx2, ha, hs, show 1 + (above name).length ≤ 16777216 by omega]
      rcases lp with ⟨y5, y6, y7, y8, y9, y10, lp⟩ | lp
      · refine cs_nx (r1 := envDu X.h W V (recD m lv name words) ((waysL X.Cl (name :: above name)).flatMap (selB lv name words X.es)) y5 y6 y7 y8 y9 y10) (O1 := O) ?_ (by
          generalize recD m lv name words = RD at *
          simp)
        rw [ev_forS, hsrc, bindS_ok']; exact lp
      · refine cs_ret ?_
        rw [ev_forS, hsrc, bindS_ok']; exact lp
  exact run_ret2 hB
end
end Lk34
set_option linter.all false
set_option maxRecDepth 100000
set_option maxHeartbeats 4000000
namespace Dn
open PySem
theorem set_same {O : Sto} {i : Nat} {c : Cell} (h : O[i]? = some c) : O.set i c = O := by
  refine List.ext_getElem? fun j => ?_
  by_cases e : i = j
  · subst e
    rw [List.getElem?_set_self (List.getElem?_eq_some_iff.mp h).1, h]
  · rw [List.getElem?_set_ne e]
theorem set_back {O : Sto} {i : Nat} {c : Cell} (h : O[i]? = some c) (d : Cell) : (O.set i d).set i c = O := by rw [List.set_set, set_same h]
theorem lcLK_map {α : Type} {t : TG0} {el : DE0} {l : Nat} {c : Cell} {r : Rho} {O : Sto} (e f : α → D) (hc : O[l]? = some c) : ∀ (xs : List α) (acc : List D),
    (∀ a ∈ xs, ∃ r1, t (e a) r O = some (r1, O) ∧ el r1 O = .ok (f a) O) → acc.length + xs.length ≤ sizeLine → lcLK t yesT el l c r (xs.map e) acc O = .ok (acc ++ xs.map f) O
  | [], acc, _, _ => by simp [lcLK, hc]
  | a :: xs, acc, h, hl => by
    obtain ⟨r1, e1, e2⟩ := h a (by simp)
    simp only [List.length_cons] at hl
    have ih := lcLK_map e f hc (t := t) (el := el) (r := r) xs (acc ++ [f a]) (fun b hb => h b (by simp [hb])) (by simp; omega)
    rw [List.map_cons]
    unfold lcLK
    rw [if_pos hc, e1]
    show (match yesT r1 O with | .ok true O2 => (match el r1 O2 with | .ok y O3 => if acc.length < sizeLine then lcLK t yesT el l c r (xs.map e) (acc ++ [y]) O3 else .bad | _ => .bad) | .ok false O2 => lcLK t yesT el l c r (xs.map e) acc O2 | _ => .bad) = _
    simp only [ev_yesT, e2]
    rw [if_pos (by omega), ih]
    simp
theorem lcK_map {α : Type} {fo : DE0} {t : TG0} {el : DE0} {own : List Nat} {r : Rho} {O : Sto} {l : Nat} {kvs : List (DKey × D)} (xs : List α) (e f : α → D) (hO : O[l]? = some (.dic kvs)) (hfo : ∀ O', fo r O' = .ok (.ob l) O') (hk : keysL kvs = xs.map e)
    (hel : ∀ u, ∀ a ∈ xs, ∃ r1, t (e a) (wipeR r own) (O.set l (.loc u kvs)) = some (r1, O.set l (.loc u kvs)) ∧ el r1 (O.set l (.loc u kvs)) = .ok (f a) (O.set l (.loc u kvs))) (hl : xs.length ≤ sizeLine) :
    lcKE false fo t yesT el own r O = .ok (.lst (xs.map f)) O := by
  have hlt : l < O.length := (List.getElem?_eq_some_iff.mp hO).1
  refine lcKE_eq (hfo O) hO fun u => ?_
  have hc : (O.set l (.loc u kvs))[l]? = some (.loc u kvs) := List.getElem?_set_self hlt
  have lc := lcLK_map (l := l) (c := .loc u kvs) e f hc xs [] (hel u) (by simpa using hl)
  unfold lkR
  rw [hfo, bind_ok']
  have hk2 : lkK false t yesT el own l (.loc u kvs) kvs r (.ob l) (O.set l (.loc u kvs)) = .ok (.lst (xs.map f)) (O.set l (.loc u kvs)) := by
    unfold lkK
    dsimp only
    rw [if_pos ⟨rfl, hc⟩, hk, lc, bind_ok']
    rfl
  rw [hk2]
  unfold toS openS
  dsimp only
  rw [if_pos hc, set_back hO]
  rfl
theorem forKL_keep {α : Type} {t : TG0} {b : DS0} {l : Nat} {c : Cell} {O : Sto} (P : Rho → Prop) (nxt : α → Rho → Rho) (e : α → D) (hc : O[l]? = some c) : ∀ (xs : List α) (r : Rho), P r →
    (∀ a ∈ xs, ∀ r, P r → P (nxt a r) ∧ ∃ r1, t (e a) r O = some (r1, O) ∧ b r1 O = .nx (nxt a r) O) →
    forKL t b l c (xs.map e) r O = .nx (xs.foldl (fun r a => nxt a r) r) O ∧ P (xs.foldl (fun r a => nxt a r) r)
  | [], r, hr, _ => ⟨by simp only [List.map_nil, List.foldl_nil]; unfold forKL; rw [if_pos hc], hr⟩
  | a :: xs, r, hr, h => by
    obtain ⟨h1, r1, h2, h3⟩ := h a (by simp) r hr
    obtain ⟨i1, i2⟩ := forKL_keep P nxt e hc xs (nxt a r) h1 (fun y hy => h y (by simp [hy]))
    refine ⟨?_, i2⟩
    rw [List.map_cons, List.foldl_cons]
    unfold forKL
    rw [if_pos hc, h2]
    simp only [h3]
    exact i1
theorem forKy_keep {α : Type} {fo : DE0} {t : TG0} {b : DS0} {r : Rho} {O : Sto} {l : Nat} {kvs : List (DKey × D)} (P : Rho → Prop) (nxt : α → Rho → Rho) (xs : List α) (e : α → D) (hO : O[l]? = some (.dic kvs)) (hfo : ∀ O', fo r O' = .ok (.ob l) O') (hk : keysL kvs = xs.map e) (hr : P r)
    (hb : ∀ u, ∀ a ∈ xs, ∀ r, P r → P (nxt a r) ∧ ∃ r1, t (e a) r (O.set l (.loc u kvs)) = some (r1, O.set l (.loc u kvs)) ∧ b r1 (O.set l (.loc u kvs)) = .nx (nxt a r) (O.set l (.loc u kvs))) :
    forKyS fo t b r O = .nx (xs.foldl (fun r a => nxt a r) r) O ∧ P (xs.foldl (fun r a => nxt a r) r) := by
  have hlt : l < O.length := (List.getElem?_eq_some_iff.mp hO).1
  have hc : ∀ u, (O.set l (.loc u kvs))[l]? = some (.loc u kvs) := fun u => List.getElem?_set_self hlt
  have k := fun u => forKL_keep (l := l) (c := .loc u kvs) P nxt e (hc u) xs r hr (hb u)
  refine ⟨forKyS_eq (hfo O) hO fun u => ?_, (k (.own 0)).2⟩
  refine kyR_eq (O1 := O.set l (.loc u kvs)) (y := .nx (xs.foldl (fun r a => nxt a r) r) (O.set l (.loc u kvs))) (hfo _) (hc u) (by rw [hk]; exact (k u).1) ?_
  simp only [openS]
  rw [if_pos (hc u), set_back hO]
end Dn
set_option linter.all false
set_option maxRecDepth 100000
set_option maxHeartbeats 4000000
namespace Lk34
open Dn PySem
theorem merge_inc {f : En → D} : ∀ (suf pre : List En), (pre ++ suf).Pairwise (fun a b => a.k < b.k) → (kkB f suf).foldl (fun acc kv => putD acc kv.1 kv.2) (kkB f pre) = kkB f (pre ++ suf)
  | [], pre, _ => by simp [kkB]
  | e :: suf, pre, h => by
    have h2 := h
    rw [List.pairwise_append] at h2
    have hn : (kkB f pre).any (fun q => decide (q.1 = .inl (e.k : Int))) = false := by
      rw [List.any_eq_false]
      intro q hq
      obtain ⟨y, hy, rfl⟩ := List.mem_map.mp hq
      have := h2.2.2 y hy e (by simp)
      have : ¬ ((Sum.inl (y.k : Int) : DKey) = .inl (e.k : Int)) := fun z => by injection z with z; omega
      simp [this]
    have e1 : putD (kkB f pre) (.inl (e.k : Int)) (f e) = kkB f (pre ++ [e]) := by
      unfold putD
      rw [hn]
      simp [kkB]
    have e2 : kkB f (e :: suf) = (.inl (e.k : Int), f e) :: kkB f suf := rfl
    rw [e2, List.foldl_cons, e1, merge_inc suf (pre ++ [e]) (by simpa using h)]
    simp
theorem pairs_kk (f : En → D) : ∀ es : List En, pairsD (es.map fun e => .tup [.int e.k, f e]) = some (kkB f es)
  | [] => rfl
  | e :: es => by
    have := pairs_kk f es
    simp only [List.map_cons, pairsD, keyD, this]
    rfl
theorem in_nums (k : Nat) (F : List Nat) (O : Sto) : inB false (.int (k : Int)) (.tup (numsB F)) O = .ok (.bl (decide (k ∈ F))) O := by
  have h1 : (numsB F).all flatD = true := by
    rw [List.all_eq_true]
    intro d hd
    obtain ⟨i, _, rfl⟩ := List.mem_map.mp hd
    rfl
  have h2 : (numsB F).any (fun y => eqv y (.int (k : Int))) = decide (k ∈ F) := by
    rw [Bool.eq_iff_iff, List.any_eq_true]
    simp only [decide_eq_true_eq]
    constructor
    · rintro ⟨d, hd, q⟩
      obtain ⟨i, hi, rfl⟩ := List.mem_map.mp hd
      have : (i : Int) = k := by simpa [eqv] using q
      have : i = k := by omega
      subst this; exact hi
    · intro hk
      exact ⟨_, List.mem_map.mpr ⟨k, hk, rfl⟩, by simp [eqv]⟩
  show (match seqR (.tup (numsB F)) O with | some ds => if flatD (.int (k : Int)) && ds.all flatD then Res.ok (D.bl (false != ds.any fun y => eqv y (.int (k : Int)))) O else .bad | none => .bad) = _
  show (if flatD (.int (k : Int)) && (numsB F).all flatD then Res.ok (D.bl (false != (numsB F).any fun y => eqv y (.int (k : Int)))) O else .bad) = _
  rw [h1, h2]
  simp [flatD]
section
variable {bd : Nat} {X : Hd} {O : Sto}
def rwD (e : En) : D := .tup (e.r.map D.str)
abbrev envW (h W V : Nat) (rd : D) (x4 x5 x6 x7 : Option D) : Rho := [some (.ob h), some (.ob W), some (.ob V), some rd, x4, x5, x6, x7]
theorem rows_dict (A : HB bd X O) {W : Nat} {f : En → D} (hw : O[W]? = some (.dic (kkB f X.es))) (hd : W ∉ X.own) (V : Nat) (rd : D) (x4 x5 x6 x7 : Option D) :
    callE dictF (consA (lcKE false (varE 1) (nameG 5) yesT (tupE (consA (varE 5) (consA (methE 5 2 fn_Hall_rows (varE 0) (consA (varE 5) nilA)) nilA))) [5]) nilA) (envW X.h W V rd x4 x5 x6 x7) O = .ok (.ob O.length) (O ++ [.dic (kkB rwD X.es)]) := by
  have hs : sizeLine = 16777216 := sizeLine_nat
  have hel := A.el
  have hwl := A.wl
  have lc := lcK_map (fo := varE 1) (t := nameG 5) (el := tupE (consA (varE 5) (consA (methE 5 2 fn_Hall_rows (varE 0) (consA (varE 5) nilA)) nilA))) (own := [5]) (r := envW X.h W V rd x4 x5 x6 x7) (O := O) X.es (fun e => D.int e.k) (fun e => D.tup [.int e.k, rwD e]) hw (fun O' => by simp) (kk_keys f X.es)
    (fun u e he => ⟨envW X.h W V rd x4 (some (.int e.k)) x6 x7, rfl, by
      have A1 := A.fr (Fr.set O W (.loc u (kkB f X.es))) (fun i hi z => hd (by simp at z; rw [← z]; exact hi))
      have := rowsB A1 he
      have h5 := A1.h
      generalize O.set W (.loc u (kkB f X.es)) = O1 at *
      simp [h5, hC, this, hs, rwD]⟩) (by rw [hs]; omega)
  have hm := merge_inc (f := rwD) X.es [] (by simpa using A.inc)
  have hp := pairs_kk rwD X.es
  have hdi : dicOf (.lst (X.es.map fun e => D.tup [.int e.k, rwD e])) O = none := rfl
  have hli : listR (.lst (X.es.map fun e => D.tup [.int e.k, rwD e])) O = some (X.es.map fun e => D.tup [.int e.k, rwD e]) := rfl
  rw [ev_callE, ev_consA, lc, bind_ok', ev_nilA, bind_ok', bind_ok']
  unfold dictF
  simp only [hdi, hli, hp]
  have hm' : mergeD [] (kkB rwD X.es) = kkB rwD X.es := by simpa [mergeD, kkB] using hm
  rw [hm']
/-- a writer's texts behind a record -/
theorem told_row (m lv : Nat) (ns : List Tx) (name words : Tx) (e : En) : (upAll m ns lv name words e).r = e.r ++ (if tkAll ns lv name words e then [lay m lv name words e.x.ps] else []) := by
  unfold upAll pushB
  split
  · rfl
  · simp
theorem told_ok {m lv : Nat} {name words : Tx} (R : Rs m lv name words) (hN : Nm name) (A : HB bd X O) {W V : Nat} (hw : O[W]? = some (.dic (kkB wlD X.es))) (hWo : ∀ e ∈ X.es, WrOk e.x) (hn : X.n < 64) {L : List (DKey × D)} (hv : O[V]? = some (.dic L)) (hc : ∀ k, (getK L (.inr k)).getD (.bl false) = .bl (X.Cl k))
    (hWn : W ∉ X.own) (hr : ∀ e ∈ X.es, e.r.length ≤ 100000) (hro : RowsOk X.es) (hlc : ∀ e ∈ X.es, ∀ c ∈ lay m lv name words e.x.ps, c < 1114112) :
    ∃ O', fn__law_told_holds [.ob X.h, .ob W, .ob V, recD m lv name words] O = .ok (.bl true) O' ∧ HB bd (X.told m lv name words) O' ∧ Fr (X.es.map (·.t)) O O' := by
  have hs : sizeLine = 16777216 := sizeLine_nat
  have hrd := rows_dict A hw hWn V (recD m lv name words) none none none none
  have A1 := A.app [.dic (kkB rwD X.es)]
  have d1 := due_ok R hN A1 (get_app hw _) hWo hn (get_app hv _) hc
  obtain ⟨O2, t1, A2, F2⟩ := tellB R hN hWo A1 (fun e he => by have := hr e he; omega)
  have tlt : ∀ e ∈ X.es, e.t < O.length := fun e he => (List.getElem?_eq_some_iff.mp (A.ta e he)).1
  have town : ∀ e ∈ X.es, e.t ∈ X.own := fun e he => by
    simp only [Hd.own, List.mem_cons, List.mem_append, List.mem_map]; exact .inr (.inr (.inr (.inr (.inr ⟨e, he, rfl⟩))))
  have w2 : O2[W]? = some (.dic (kkB wlD X.es)) := F2.at' _ _ (get_app hw _) (fun z => by
    obtain ⟨e, he, q⟩ := List.mem_map.mp z
    exact hWn (by rw [← q]; exact town e he))
  have hwl : W < O.length := (List.getElem?_eq_some_iff.mp hw).1
  have r2 : O2[O.length]? = some (.dic (kkB rwD X.es)) := F2.at' _ _ (by simp) (fun z => by
    obtain ⟨e, he, q⟩ := List.mem_map.mp z
    have := tlt e he
    omega)
  have h51 : (O ++ [.dic (kkB rwD X.es)])[X.h]? = some (.ins 5 [(16, .ob X.l), (17, .ob X.c), (18, .ob X.w), (0, .int X.n), (19, .int X.s)]) := A1.h
  have nd := X.ways_nd hN lv
  have hes : (X.told m lv name words).es = X.es.map (upAll m (X.ways lv name) lv name words) := upsB_eq m lv name words (X.ways lv name) X.es nd
  have hown : (X.told m lv name words).own = X.own := by
    have h1 : (X.told m lv name words).es.map (·.p) = X.es.map (·.p) := by
      rw [hes, List.map_map]; exact List.map_congr_left fun e _ => (upAll_k m lv (X.ways lv name) name words e).2.1
    have h2 : (X.told m lv name words).es.map (·.t) = X.es.map (·.t) := by
      rw [hes, List.map_map]; exact List.map_congr_left fun e _ => (upAll_k m lv (X.ways lv name) name words e).2.2.1
    unfold Hd.own
    rw [h1, h2]; rfl
  have hnn : neD (.tup (numsB (X.who lv name words))) (.tup (numsB (X.who lv name words))) O2 = .ok (.bl false) O2 := ne_tup (n := 2) (by omega) (okN_tup (n := 1) fun d hd => by
    obtain ⟨i, _, rfl⟩ := List.mem_map.mp hd
    exact okN_int _)
  have hll := fun (e : En) (he : e ∈ X.es) O => Lk10.laid_any R e.x.f (by have := (hWo e he).fl; omega) O
  have hll : ∀ e ∈ X.es, ∀ O, closeFn fn_laid [.str e.x.f, recD m lv name words] O = .ok (.str (lay m lv name words e.x.ps)) O := fun e he O => by
    have := hll e he O
    rw [(hWo e he).rd] at this
    exact this
  -- the loop
  let mo : En → D := fun e => .tup ((if tkAll (X.ways lv name) lv name words e then [lay m lv name words e.x.ps] else []).map D.str)
  have lp := forKy_keep (fo := varE 1) (t := nameG 5) (b := Q__law_told_holds_1) (r := envW X.h W V (recD m lv name words) (some (.ob O.length)) none (some (.tup (numsB (X.who lv name words)))) none) (O := O2)
    (fun r => ∃ x5 x7, r = envW X.h W V (recD m lv name words) (some (.ob O.length)) x5 (some (.tup (numsB (X.who lv name words)))) x7) (fun (e : En) _ => envW X.h W V (recD m lv name words) (some (.ob O.length)) (some (.int e.k)) (some (.tup (numsB (X.who lv name words)))) (some (mo e))) X.es (fun e => D.int e.k) w2 (fun O' => by simp) (kk_keys wlD X.es) ⟨_, _, rfl⟩
    (by
      rintro u e he r ⟨x5, x7, rfl⟩
      refine ⟨⟨_, _, rfl⟩, envW X.h W V (recD m lv name words) (some (.ob O.length)) (some (.int e.k)) (some (.tup (numsB (X.who lv name words)))) x7, rfl, ?_⟩
      have A3 := A2.fr (Fr.set O2 W (.loc u (kkB wlD X.es))) (fun i hi z => hWn (by rw [hown] at hi; simp at z; rw [← z]; exact hi))
      have hwl2 : W < O2.length := (List.getElem?_eq_some_iff.mp w2).1
      have w3 : (O2.set W (.loc u (kkB wlD X.es)))[W]? = some (.loc u (kkB wlD X.es)) := List.getElem?_set_self hwl2
      have r3 : (O2.set W (.loc u (kkB wlD X.es)))[O.length]? = some (.dic (kkB rwD X.es)) := by rw [List.getElem?_set_ne (by omega)]; exact r2
      generalize O2.set W (.loc u (kkB wlD X.es)) = O3 at *
      have he' : upAll m (X.ways lv name) lv name words e ∈ (X.told m lv name words).es := by rw [hes]; exact List.mem_map_of_mem he
      have hrow := rowsB A3 he'
      obtain ⟨u1, u2, u3, u4⟩ := upAll_k m lv (X.ways lv name) name words e
      rw [u1, told_row] at hrow
      have h5 : O3[X.h]? = some (.ins 5 [(16, .ob X.l), (17, .ob X.c), (18, .ob X.w), (0, .int X.n), (19, .int X.s)]) := A3.h
      have gw := kk_at (f := wlD) A.inc he
      have gr := kk_at (f := rwD) A.inc he
      have i1 : ixLD (.ob W) (.int (e.k : Int)) O3 = .ok (.tup [.str e.x.nm, .int e.x.ls, gateD e.x.g, .str e.x.f]) O3 := by
        simp only [ixLD, w3, keyD, gw]; rfl
      have i2 : ixD (.ob O.length) (.int (e.k : Int)) O3 = .ok (.tup (e.r.map D.str)) O3 := by rw [ix_obD r3]; simp [keyD, gr, rwD]
      have i3 := in_nums e.k (X.who lv name words) O3
      have hwho : decide (e.k ∈ X.who lv name words) = tkAll (X.ways lv name) lv name words e := by
        have := who_iff A.inc (X.ways lv name) lv name words he
        unfold Hd.who
        cases z : tkAll (X.ways lv name) lv name words e with
        | true => exact decide_eq_true (this.mpr z)
        | false => exact decide_eq_false fun q => by rw [this.mp q] at z; cases z
      rw [hwho] at i3
      have la := hll e he O3
      have hne : neD (.tup ((e.r ++ (if tkAll (X.ways lv name) lv name words e then [lay m lv name words e.x.ps] else [])).map D.str)) (.tup ((e.r ++ (if tkAll (X.ways lv name) lv name words e then [lay m lv name words e.x.ps] else [])).map D.str)) O3 = .ok (.bl false) O3 := ne_tup (n := 2) (by omega) (okN_row fun t ht => by
        rcases List.mem_append.mp ht with ht | ht
        · exact hro.c e he t ht
        · split at ht
          · simp only [List.mem_cons, List.not_mem_nil, or_false] at ht
            subst ht
            exact hlc e he
          · cases ht)
      have hrl := hr e he
      have hk5 : fn_Hall_rows [.ob X.h, .int (e.k : Int)] O3 = .ok (.tup ((e.r ++ (if tkAll (X.ways lv name) lv name words e then [lay m lv name words e.x.ps] else [])).map D.str)) O3 := hrow
      show _ = SR.nx (envW X.h W V (recD m lv name words) (some (.ob O.length)) (some (.int e.k)) (some (.tup (numsB (X.who lv name words)))) (some (.tup ((if tkAll (X.ways lv name) lv name words e then [lay m lv name words e.x.ps] else []).map D.str)))) O3
      generalize gateD e.x.g = GD at *
      generalize numsB (X.who lv name words) = NB at *
      generalize recD m lv name words = RD at *
      generalize lay m lv name words e.x.ps = T at *
      unfold Q__law_told_holds_1
      cases z : tkAll (X.ways lv name) lv name words e with
      | true =>
        rw [z] at i3 hne hk5
        simp only [if_true, List.map_append, List.map_cons, List.map_nil] at hne hk5 ⊢
        refine cs_nx (r1 := envW X.h W V RD (some (.ob O.length)) (some (.int e.k)) (some (.tup NB)) (some (.tup [.str T]))) (O1 := O3) (by simp [i3, i1, la, hs]) ?_
        have ad : addD false (.tup (e.r.map D.str)) (.tup [.str T]) O3 = .ok (.tup (e.r.map D.str ++ [.str T])) O3 := by
          simp [addD, hs]; omega
        generalize e.r.map D.str ++ [.str T] = ZZ at *
        refine if_f (O1 := O3) ?_ rfl
        rw [ev_cmpT]
        have m1 : methE 5 2 fn_Hall_rows (varE 0) (consA (varE 5) nilA) (envW X.h W V RD (some (.ob O.length)) (some (.int e.k)) (some (.tup NB)) (some (.tup [.str T]))) O3 = .ok (.tup ZZ) O3 := by simp [h5, hk5]
        have m2 : op2 (addD false) (op2 ixD (varE 4) (varE 5)) (varE 7) (envW X.h W V RD (some (.ob O.length)) (some (.int e.k)) (some (.tup NB)) (some (.tup [.str T]))) O3 = .ok (.tup ZZ) O3 := by
          have : op2 ixD (varE 4) (varE 5) (envW X.h W V RD (some (.ob O.length)) (some (.int e.k)) (some (.tup NB)) (some (.tup [.str T]))) O3 = .ok (.tup (e.r.map D.str)) O3 := by simp [i2]
          rw [ev_op2, this, bind_ok']
          show (Res.ok (D.tup [.str T]) O3).bind _ = _
          rw [bind_ok', ad]
        rw [m1, bind_ok', m2, bind_ok', hne]; rfl
      | false =>
        rw [z] at i3 hne hk5
        simp only [Bool.false_eq_true, if_false, List.append_nil, List.map_nil] at hne hk5 ⊢
        refine cs_nx (r1 := envW X.h W V RD (some (.ob O.length)) (some (.int e.k)) (some (.tup NB)) (some (.tup []))) (O1 := O3) (by simp [i3]) ?_
        have ad : addD false (.tup (e.r.map D.str)) (.tup []) O3 = .ok (.tup (e.r.map D.str)) O3 := by
          simp [addD, hs]; omega
        generalize e.r.map D.str = ZZ at *
        refine if_f (O1 := O3) ?_ rfl
        rw [ev_cmpT]
        have m1 : methE 5 2 fn_Hall_rows (varE 0) (consA (varE 5) nilA) (envW X.h W V RD (some (.ob O.length)) (some (.int e.k)) (some (.tup NB)) (some (.tup []))) O3 = .ok (.tup ZZ) O3 := by simp [h5, hk5]
        have m2 : op2 (addD false) (op2 ixD (varE 4) (varE 5)) (varE 7) (envW X.h W V RD (some (.ob O.length)) (some (.int e.k)) (some (.tup NB)) (some (.tup []))) O3 = .ok (.tup ZZ) O3 := by
          have : op2 ixD (varE 4) (varE 5) (envW X.h W V RD (some (.ob O.length)) (some (.int e.k)) (some (.tup NB)) (some (.tup []))) O3 = .ok (.tup ZZ) O3 := by simp [i2]
          rw [ev_op2, this, bind_ok']
          show (Res.ok (D.tup []) O3).bind _ = _
          rw [bind_ok', ad]
        rw [m1, bind_ok', m2, bind_ok', hne]; rfl)
  obtain ⟨lp, x5, x7, lpe⟩ := lp
  refine ⟨O2, ?_, A2, (Fr.app _ _ _).trans F2⟩
  have hB : B__law_told_holds [some (.ob X.h), some (.ob W), some (.ob V), some (recD m lv name words), none, none, none, none] O = .ret (.bl true) O2 := by
    unfold B__law_told_holds
    refine cs_nx (r1 := envW X.h W V (recD m lv name words) (some (.ob O.length)) none none none) (O1 := O ++ [.dic (kkB rwD X.es)]) (by rw [ev_setS, hrd]; rfl) ?_
    refine cs_nx (r1 := envW X.h W V (recD m lv name words) (some (.ob O.length)) none (some (.tup (numsB (X.who lv name words)))) none) (O1 := O ++ [.dic (kkB rwD X.es)]) ?_ ?_
    · generalize numsB (X.who lv name words) = NB at *
      generalize recD m lv name words = RD at *
      simp [d1]
    refine cs_nx (r1 := envW X.h W V (recD m lv name words) (some (.ob O.length)) none (some (.tup (numsB (X.who lv name words)))) none) (O1 := O2) ?_ ?_
    · generalize numsB (X.who lv name words) = NB at *
      generalize recD m lv name words = RD at *
      refine if_f (O1 := O2) ?_ rfl
      have m1 : methE 5 2 fn_Hall_tell (varE 0) (consA (varE 3) nilA) (envW X.h W V RD (some (.ob O.length)) none (some (.tup NB)) none) (O ++ [.dic (kkB rwD X.es)]) = .ok (.tup NB) O2 := by
        generalize (O ++ [.dic (kkB rwD X.es)]) = O1 at *
        simp [h51, t1]
      rw [ev_cmpT, m1, bind_ok']
      show ((Res.ok (D.tup NB) O2).bind _).bind _ = _
      rw [bind_ok', hnn]; rfl
    refine cs_nx (r1 := X.es.foldl (fun _ e => envW X.h W V (recD m lv name words) (some (.ob O.length)) (some (.int e.k)) (some (.tup (numsB (X.who lv name words)))) (some (mo e))) (envW X.h W V (recD m lv name words) (some (.ob O.length)) none (some (.tup (numsB (X.who lv name words)))) none)) (O1 := O2) lp (by simp)
  exact run_ret2 hB
end
end Lk34
set_option linter.all false
set_option maxRecDepth 100000
set_option maxHeartbeats 4000000
namespace Lk34
open Dn PySem
structure C34 (bd : Nat) (X Y : Hd) (W V T : Nat) (cw cv : Cell) (O : Sto) : Prop where
  a : HB bd X O
  b : HB bd Y O
  t : TownAt O T
  w : O[W]? = some cw
  v : O[V]? = some cv
  d1 : ∀ i ∈ X.own, i ∉ Y.own
  d2 : ∀ i ∈ X.own, i ≠ W ∧ i ≠ V ∧ i ≠ 0
  d3 : ∀ i ∈ Y.own, i ≠ W ∧ i ≠ V ∧ i ≠ 0
  d4 : W ≠ V ∧ W ≠ 0 ∧ V ≠ 0
section
variable {bd bd' : Nat} {X Y X' Y' : Hd} {W V T : Nat} {cw cv : Cell} {O O' : Sto}
theorem ltg {i : Nat} {c : Cell} (h : O[i]? = some c) : i < O.length := (List.getElem?_eq_some_iff.mp h).1
theorem C34.stepX {Tl : List Nat} (C : C34 bd X Y W V T cw cv O) (hb : bd ≤ bd') (A : HB bd' X' O') (F : Fr Tl O O') (hT : ∀ i ∈ Tl, i ∈ X.own) (ho : ∀ i ∈ X'.own, i ∈ X.own ∨ O.length ≤ i) : C34 bd' X' Y W V T cw cv O' := by
  have hw := ltg C.w
  have hv := ltg C.v
  have h0 := ltg C.t
  have hy := C.b.lt
  refine ⟨A, (C.b.fr F fun i hi z => C.d1 i (hT i z) hi).up hb, F.at' _ _ C.t (fun z => (C.d2 0 (hT 0 z)).2.2 rfl), F.at' _ _ C.w (fun z => (C.d2 W (hT W z)).1 rfl), F.at' _ _ C.v (fun z => (C.d2 V (hT V z)).2.1 rfl), fun i hi z => ?_, fun i hi => ?_, C.d3, C.d4⟩
  · rcases ho i hi with q | q
    · exact C.d1 i q z
    · have := hy i z; omega
  · rcases ho i hi with q | q
    · exact C.d2 i q
    · omega
theorem C34.stepY {Tl : List Nat} (C : C34 bd X Y W V T cw cv O) (hb : bd ≤ bd') (A : HB bd' Y' O') (F : Fr Tl O O') (hT : ∀ i ∈ Tl, i ∈ Y.own) (ho : ∀ i ∈ Y'.own, i ∈ Y.own ∨ O.length ≤ i) : C34 bd' X Y' W V T cw cv O' := by
  have hw := ltg C.w
  have hv := ltg C.v
  have h0 := ltg C.t
  have hx := C.a.lt
  refine ⟨(C.a.fr F fun i hi z => C.d1 i hi (hT i z)).up hb, A, F.at' _ _ C.t (fun z => (C.d3 0 (hT 0 z)).2.2 rfl), F.at' _ _ C.w (fun z => (C.d3 W (hT W z)).1 rfl), F.at' _ _ C.v (fun z => (C.d3 V (hT V z)).2.1 rfl), fun i hi z => ?_, C.d2, fun i hi => ?_, C.d4⟩
  · rcases ho i z with q | q
    · exact C.d1 i hi q
    · have := hx i hi; omega
  · rcases ho i hi with q | q
    · exact C.d3 i q
    · omega
theorem fr_off (h : Off O O') : Fr [0] O O' := ⟨by rw [h.len]; exact Nat.le_refl _, fun i c q n => by rw [h.at' i (by simpa using n)]; exact q⟩
theorem C34.stepT {T' : Nat} (C : C34 bd X Y W V T cw cv O) (h : Off O O') (t : TownAt O' T') : C34 bd X Y W V T' cw cv O' := by
  have F := fr_off h
  exact ⟨C.a.fr F (fun i hi z => (C.d2 i hi).2.2 (by simpa using z)), C.b.fr F (fun i hi z => (C.d3 i hi).2.2 (by simpa using z)), t, F.at' _ _ C.w (fun z => C.d4.2.1 (by simpa using z)), F.at' _ _ C.v (fun z => C.d4.2.2 (by simpa using z)), C.d1, C.d2, C.d3, C.d4⟩
theorem C34.stepW (C : C34 bd X Y W V T cw cv O) (c : Cell) : C34 bd X Y W V T c cv (O.set W c) := by
  have F := Fr.set O W c
  exact ⟨C.a.fr F (fun i hi z => (C.d2 i hi).1 (by simpa using z)), C.b.fr F (fun i hi z => (C.d3 i hi).1 (by simpa using z)), F.at' _ _ C.t (fun z => C.d4.2.1 (by simp at z; exact z.symm)), List.getElem?_set_self (ltg C.w), F.at' _ _ C.v (fun z => C.d4.1 (by simp at z; exact z.symm)), C.d1, C.d2, C.d3, C.d4⟩
theorem C34.stepV (C : C34 bd X Y W V T cw cv O) (c : Cell) : C34 bd X Y W V T cw c (O.set V c) := by
  have F := Fr.set O V c
  exact ⟨C.a.fr F (fun i hi z => (C.d2 i hi).2.1 (by simpa using z)), C.b.fr F (fun i hi z => (C.d3 i hi).2.1 (by simpa using z)), F.at' _ _ C.t (fun z => C.d4.2.2 (by simp at z; exact z.symm)), F.at' _ _ C.w (fun z => C.d4.1 (by simpa using z)), List.getElem?_set_self (ltg C.v), C.d1, C.d2, C.d3, C.d4⟩
theorem C34.up (C : C34 bd X Y W V T cw cv O) (hb : bd ≤ bd') : C34 bd' X Y W V T cw cv O := ⟨C.a.up hb, C.b.up hb, C.t, C.w, C.v, C.d1, C.d2, C.d3, C.d4⟩
/-- what a hall's own cells are behind a deed -/
theorem own_told (X : Hd) {name : Tx} (hN : Nm name) (m lv : Nat) (words : Tx) : (X.told m lv name words).own = X.own := by
  have hes : (X.told m lv name words).es = X.es.map (upAll m (X.ways lv name) lv name words) := upsB_eq m lv name words (X.ways lv name) X.es (X.ways_nd hN lv)
  have h1 : (X.told m lv name words).es.map (·.p) = X.es.map (·.p) := by
    rw [hes, List.map_map]; exact List.map_congr_left fun e _ => (upAll_k m lv (X.ways lv name) name words e).2.1
  have h2 : (X.told m lv name words).es.map (·.t) = X.es.map (·.t) := by
    rw [hes, List.map_map]; exact List.map_congr_left fun e _ => (upAll_k m lv (X.ways lv name) name words e).2.2.1
  unfold Hd.own
  rw [h1, h2]; rfl
theorem own_less (X : Hd) (k : Nat) : ∀ i ∈ (X.less k).own, i ∈ X.own := by
  intro i hi
  simp only [Hd.own, Hd.less, List.mem_cons, List.mem_append, List.mem_map, List.mem_filter] at hi ⊢
  rcases hi with h | h | h | h | ⟨e, ⟨he, _⟩, h⟩ | ⟨e, ⟨he, _⟩, h⟩
  · exact .inl h
  · exact .inr (.inl h)
  · exact .inr (.inr (.inl h))
  · exact .inr (.inr (.inr (.inl h)))
  · exact .inr (.inr (.inr (.inr (.inl ⟨e, he, h⟩))))
  · exact .inr (.inr (.inr (.inr (.inr ⟨e, he, h⟩))))
theorem own_more (X : Hd) (p : Nat) (x : Wr) : ∀ i ∈ (X.more p x).own, i ∈ X.own ∨ p ≤ i := by
  intro i hi
  simp only [Hd.own, Hd.more, List.map_append, List.map_cons, List.map_nil, List.mem_cons, List.mem_append, List.mem_map, List.not_mem_nil, or_false] at hi ⊢
  rcases hi with h | h | h | h | (h | h) | (h | h)
  · exact .inl (.inl h)
  · exact .inl (.inr (.inl h))
  · exact .inl (.inr (.inr (.inl h)))
  · exact .inl (.inr (.inr (.inr (.inl h))))
  · exact .inl (.inr (.inr (.inr (.inr (.inl h)))))
  · exact .inr (by omega)
  · exact .inl (.inr (.inr (.inr (.inr (.inr h)))))
  · exact .inr (by omega)
theorem own_texts (X : Hd) : ∀ i ∈ X.es.map (·.t), i ∈ X.own := fun i hi => by
  simp only [Hd.own, List.mem_cons, List.mem_append]; exact .inr (.inr (.inr (.inr (.inr hi))))
def core (e : En) : Nat × Wr × List Tx := (e.k, e.x, e.r)
/-- the form of all writers -/
def FM : Tx := [123, 109, 111, 109, 101, 110, 116, 125, 32, 123, 119, 111, 114, 100, 115, 61, 57, 125]
structure P34 (B : Nat) (X Y : Hd) : Prop where
  es : Y.es.map core = X.es.map core
  n : Y.n = X.n
  s : Y.s = X.s
  M : Y.M = X.M
  Cl : Y.Cl = X.Cl
  ok : ∀ e ∈ X.es, WrOk e.x ∧ e.x.f = FM
  rl : ∀ e ∈ X.es, e.r.length ≤ B
  ro : RowsOk X.es
theorem core_mem {es es' : List En} (h : es'.map core = es.map core) {e : En} (he : e ∈ es') : ∃ y ∈ es, core y = core e := by
  have : core e ∈ es.map core := by rw [← h]; exact List.mem_map_of_mem he
  obtain ⟨y, hy, q⟩ := List.mem_map.mp this
  exact ⟨y, hy, q⟩
theorem core_eq {a b : En} (h : core a = core b) : a.k = b.k ∧ a.x = b.x ∧ a.r = b.r := by
  have h1 := congrArg (·.1) h
  have h2 := congrArg (·.2.1) h
  have h3 := congrArg (·.2.2) h
  exact ⟨h1, h2, h3⟩
theorem P34.okY {B : Nat} (P : P34 B X Y) : ∀ e ∈ Y.es, WrOk e.x ∧ e.x.f = FM := fun e he => by
  obtain ⟨y, hy, q⟩ := core_mem P.es he
  rw [← (core_eq q).2.1]; exact P.ok y hy
theorem P34.rlY {B : Nat} (P : P34 B X Y) : ∀ e ∈ Y.es, e.r.length ≤ B := fun e he => by
  obtain ⟨y, hy, q⟩ := core_mem P.es he
  rw [← (core_eq q).2.2]; exact P.rl y hy
theorem P34.roY {B : Nat} (P : P34 B X Y) : RowsOk Y.es := ⟨fun e he => by
  obtain ⟨y, hy, q⟩ := core_mem P.es he
  rw [← (core_eq q).2.2]; exact P.ro.c y hy⟩
theorem P34.kkY {B : Nat} (P : P34 B X Y) : kkB wlD Y.es = kkB wlD X.es := by
  have h : ∀ es : List En, kkB wlD es = (es.map core).map fun q => ((.inl (q.1 : Int) : DKey), D.tup [.str q.2.1.nm, .int q.2.1.ls, gateD q.2.1.g, .str q.2.1.f]) := fun es => by
    simp only [kkB, List.map_map]; rfl
  rw [h, h, P.es]
theorem P34.keysY {B : Nat} (P : P34 B X Y) : Y.es.map (fun e => D.int e.k) = X.es.map fun e => D.int e.k := by
  have h : ∀ es : List En, es.map (fun e => D.int e.k) = (es.map core).map fun q => D.int q.1 := fun es => by
    simp only [List.map_map]; rfl
  rw [h, h, P.es]
theorem P34.waysY {B : Nat} (P : P34 B X Y) (lv : Nat) (name : Tx) : Y.ways lv name = X.ways lv name := by
  unfold Hd.ways Hd.goes
  rw [P.s, P.M, P.Cl]
theorem P34.told {B : Nat} (P : P34 B X Y) {name : Tx} (hN : Nm name) (m lv : Nat) (words : Tx) (hlc : ∀ e ∈ X.es, ∀ c ∈ lay m lv name words e.x.ps, c < 1114112) : P34 (B + 1) (X.told m lv name words) (Y.told m lv name words) := by
  have hx : (X.told m lv name words).es = X.es.map (upAll m (X.ways lv name) lv name words) := upsB_eq m lv name words (X.ways lv name) X.es (X.ways_nd hN lv)
  have hy : (Y.told m lv name words).es = Y.es.map (upAll m (X.ways lv name) lv name words) := by
    have := upsB_eq m lv name words (Y.ways lv name) Y.es (Y.ways_nd hN lv)
    rw [P.waysY] at this
    show upsB m lv name words (Y.ways lv name) Y.es = _
    rw [P.waysY]; exact this
  have hc : ∀ es : List En, (es.map (upAll m (X.ways lv name) lv name words)).map core = (es.map core).map fun q => (q.1, q.2.1, q.2.2 ++ if (decide (q.2.1.nm ∈ X.ways lv name) && tk lv name words q.2.1) then [lay m lv name words q.2.1.ps] else []) := fun es => by
    rw [List.map_map, List.map_map]
    refine List.map_congr_left fun e _ => ?_
    obtain ⟨u1, u2, u3, u4⟩ := upAll_k m lv (X.ways lv name) name words e
    show ((upAll m (X.ways lv name) lv name words e).k, (upAll m (X.ways lv name) lv name words e).x, (upAll m (X.ways lv name) lv name words e).r) = _
    rw [u1, u4, told_row]; rfl
  have mem : ∀ e ∈ (X.told m lv name words).es, ∃ y ∈ X.es, e = upAll m (X.ways lv name) lv name words y := fun e he => by
    rw [hx] at he
    obtain ⟨y, hy, q⟩ := List.mem_map.mp he
    exact ⟨y, hy, q.symm⟩
  refine ⟨by rw [hx, hy, hc, hc, P.es], P.n, P.s, P.M, P.Cl, fun e he => ?_, fun e he => ?_, ⟨fun e he t ht c hcc => ?_⟩⟩
  · obtain ⟨y, hy, rfl⟩ := mem e he
    rw [(upAll_k m lv (X.ways lv name) name words y).2.2.2]; exact P.ok y hy
  · obtain ⟨y, hy, rfl⟩ := mem e he
    have := P.rl y hy
    rw [told_row, List.length_append]
    split <;> simp <;> omega
  · obtain ⟨y, hy, rfl⟩ := mem e he
    rw [told_row] at ht
    rcases List.mem_append.mp ht with ht | ht
    · exact P.ro.c y hy t ht c hcc
    · split at ht
      · simp only [List.mem_cons, List.not_mem_nil, or_false] at ht
        subst ht
        exact hlc y hy c hcc
      · cases ht
theorem P34.more {B : Nat} (P : P34 B X Y) (p q : Nat) {x : Wr} (W : WrOk x) (hf : x.f = FM) : P34 B (X.more p x) (Y.more q x) := by
  have mem : ∀ e ∈ (X.more p x).es, e ∈ X.es ∨ e = ⟨X.n + 1, p, p + 1, x, []⟩ := fun e he => by simpa [Hd.more] using he
  refine ⟨?_, ?_, P.s, P.M, P.Cl, fun e he => ?_, fun e he => ?_, ⟨fun e he t ht => ?_⟩⟩
  · show (Y.es ++ [_]).map core = (X.es ++ [_]).map core
    rw [List.map_append, List.map_append, P.es]
    simp [core, P.n]
  · show Y.n + 1 = X.n + 1
    rw [P.n]
  · rcases mem e he with h | rfl
    · exact P.ok e h
    · exact ⟨W, hf⟩
  · rcases mem e he with h | rfl
    · exact P.rl e h
    · exact Nat.zero_le _
  · rcases mem e he with h | rfl
    · exact P.ro.c e h t ht
    · cases ht
theorem P34.less {B : Nat} (P : P34 B X Y) (k : Nat) : P34 B (X.less k) (Y.less k) := by
  refine ⟨?_, P.n, P.s, P.M, P.Cl, fun e he => P.ok e (List.mem_filter.mp he).1, fun e he => P.rl e (List.mem_filter.mp he).1, ⟨fun e he => P.ro.c e (List.mem_filter.mp he).1⟩⟩
  have h : ∀ es : List En, (es.filter fun e => decide (e.k ≠ k)).map core = (es.map core).filter fun q => decide (q.1 ≠ k) := fun es => by
    rw [List.filter_map]; rfl
  show (Y.es.filter _).map core = (X.es.filter _).map core
  rw [h, h, P.es]
theorem P34.lev {B : Nat} (P : P34 B X Y) (x : Tx) (v : Nat) : P34 B (X.lev x v) (Y.lev x v) := ⟨P.es, P.n, P.s, by show (fun k => if k = x then some v else Y.M k) = fun k => if k = x then some v else X.M k; rw [P.M], P.Cl, P.ok, P.rl, P.ro⟩
theorem P34.clo {B : Nat} (P : P34 B X Y) (x : Tx) (v : Bool) : P34 B (X.clo x v) (Y.clo x v) := ⟨P.es, P.n, P.s, P.M, by show (fun k => if k = x then v else Y.Cl k) = fun k => if k = x then v else X.Cl k; rw [P.Cl], P.ok, P.rl, P.ro⟩
end
end Lk34
set_option linter.all false
set_option maxRecDepth 100000
set_option maxHeartbeats 4000000
namespace Lk34
open Dn PySem
def brA : DS0 := (consS (setS 11 (fnE 3 fn__law_pick (consA (varE 0) (consA (varE 1) (consA (lstE false (consA (tupE (consA (constE (.str [121, 101, 115])) nilA)) (consA (fnE 3 (fn__law_gate 100) (consA (varE 0) (consA (varE 1) (consA (constE (.int 1)) nilA)))) nilA))) nilA)))))
    (consS (setS 12 (fnE 3 fn__law_pick (consA (varE 0) (consA (varE 1) (consA (lstE false (consA (constE (.int 0)) (consA (fnE 3 fn__law_draw (consA (varE 0) (consA (varE 1) (consA (constE (.int 60)) nilA)))) nilA))) nilA)))))
    (consS (asgS (tupG 2 (consG (nameG 7) (consG (nameG 13) nilG))) (tupE (consA (op2 (addD false) (varE 7) (constE (.int 1))) (consA (tupE (consA (varE 9) (consA (varE 12) (consA (varE 11) (consA (constE (.str [123, 109, 111, 109, 101, 110, 116, 125, 32, 123, 119, 111, 114, 100, 115, 61, 57, 125])) nilA))))) nilA))))
    (consS (ifS (cmpT neD (lcE false (seqI (tupE (consA (varE 3) (consA (varE 4) nilA)))) (nameG 14) yesT (methE 5 5 fn_Hall_add_writer (varE 14) (consA (varE 9) (consA (varE 12) (consA (fnE 1 (closeFn (fn_shown 100)) (consA (varE 11) nilA)) (consA (op2 ixD (varE 13) (constE (.int 3))) nilA))))) [14]) (lstE false (consA (varE 7) (consA (varE 7) nilA))))
    (retS (constE (.bl false)))
    nilS)
    (asgS (subG (varE 5) (varE 7)) (varE 13))))))
def brB : DS0 := (consS (setS 15 (fnE 3 fn__law_pick (consA (varE 0) (consA (varE 1) (consA (callE (sortedF false) (consA (varE 5) nilA)) nilA)))))
    (consS (exprS (popE (varE 5) (varE 15)))
    (consS (exprS (methE 5 2 fn_Hall_take_away (varE 3) (consA (varE 15) nilA)))
    (exprS (methE 5 2 fn_Hall_take_away (varE 4) (consA (varE 15) nilA))))))
def brC : DS0 := (consS (asgS (subG (varE 6) (varE 9)) (op2 eqD (fnE 3 fn__law_draw (consA (varE 0) (consA (varE 1) (consA (constE (.int 2)) nilA)))) (constE (.int 0))))
    (consS (exprS (methE 5 3 fn_Hall_close (varE 3) (consA (varE 9) (consA (op2 ixD (varE 6) (varE 9)) nilA))))
    (exprS (methE 5 3 fn_Hall_close (varE 4) (consA (varE 9) (consA (op2 ixD (varE 6) (varE 9)) nilA))))))
def brD : DS0 := (consS (exprS (methE 5 3 fn_Hall_set_level (varE 3) (consA (varE 9) (consA (varE 8) nilA))))
    (exprS (methE 5 3 fn_Hall_set_level (varE 4) (consA (varE 9) (consA (varE 8) nilA)))))
def deeds : DS0 := (ifS (cmpT ltD (varE 10) (constE (.int 2))) brA (ifS (andT (cmpT eqD (varE 10) (constE (.int 2))) (andT (truT (varE 5)) (truT (fnE 3 fn__law_draw (consA (varE 0) (consA (varE 1) (consA (constE (.int 2)) nilA))))))) brB (ifS (cmpT eqD (varE 10) (constE (.int 3))) brC (ifS (cmpT eqD (varE 10) (constE (.int 4))) brD nilS))))
def st0 : DS0 := (asgS (tupG 2 (consG (nameG 9) (consG (nameG 10) nilG))) (tupE (consA (fnE 2 fn__law_name (consA (varE 0) (consA (varE 1) nilA))) (consA (fnE 3 fn__law_draw (consA (varE 0) (consA (varE 1) (consA (constE (.int 7)) nilA)))) nilA))))
def st1 : DS0 := (ifS (notT (truT (fnE 3 fn__law_refused (consA (varE 4) (consA (varE 9) (consA (callE (listKF false) (consA (varE 5) nilA)) nilA))))))
    (retS (constE (.bl false)))
    nilS)
def st3 : DS0 := (setS 16 (fnE 3 fn__law_record (consA (varE 0) (consA (varE 1) (consA (varE 8) nilA)))))
noncomputable def st4 : DS0 := (ifS (orT (notT (truT (fnE 4 fn__law_told_holds (consA (varE 3) (consA (varE 5) (consA (varE 6) (consA (varE 16) nilA))))))) (notT (truT (fnE 4 fn__law_told_holds (consA (varE 4) (consA (varE 5) (consA (varE 6) (consA (varE 16) nilA))))))))
    (retS (constE (.bl false)))
    nilS)
noncomputable def st5 : DS0 := (ifS (truT (callE anyF (consA (lcKE false (varE 5) (nameG 15) yesT (op2 neD (methE 5 2 fn_Hall_rows (varE 3) (consA (varE 15) nilA)) (methE 5 2 fn_Hall_rows (varE 4) (consA (varE 15) nilA))) [15]) nilA)))
    (retS (constE (.bl false)))
    nilS)
theorem Q1_is : Q_law_1 = consS st0 (consS st1 (consS deeds (consS st3 (consS st4 st5)))) := rfl
abbrev E17 (sc : D) (k : Option D) (h1 h2 W V : Nat) (n tu : D) (x9 x10 x11 x12 x13 x14 x15 x16 : Option D) : Rho := [some sc, some (.ob 0), k, some (.ob h1), some (.ob h2), some (.ob W), some (.ob V), some n, some tu, x9, x10, x11, x12, x13, x14, x15, x16]
structure ST (bd B : Nat) (X Y : Hd) (W V T : Nat) (O : Sto) : Prop where
  P : P34 B X Y
  C : ∃ L, C34 bd X Y W V T (.dic (kkB wlD X.es)) (.dic L) O ∧ L.length ≤ bd ∧ ∀ k, (getK L (.inr k)).getD (.bl false) = .bl (X.Cl k)
def FP : List Part := [.fld [109, 111, 109, 101, 110, 116] [] 0, .txt [32], .fld [119, 111, 114, 100, 115] [61] 9]
theorem fm_rd : rdP FM.length FM 0 [] = .ok FP := by kernel_rfl
theorem ps_is {x : Wr} (W : WrOk x) (h : x.f = FM) : x.ps = FP := by
  have := W.rd
  rw [h, fm_rd] at this
  injection this with this
  exact this.symm
theorem lay_chars {m lv : Nat} {name words : Tx} (hw : ∀ c ∈ words, 32 ≤ c ∧ c ≤ 126) : ∀ c ∈ lay m lv name words FP, c < 1114112 := by
  intro c hc
  have e : lay m lv name words FP = TL.numL m ++ ([32] ++ (words.take 9 ++ List.replicate (9 - (words.take 9).length) 32)) := by
    simp [lay, FP, lpt, padT, wtx]
  rw [e] at hc
  simp only [List.mem_append] at hc
  rcases hc with h | h | h | h
  · have := digit_lt c h; omega
  · simp at h; omega
  · have := hw c (List.mem_of_mem_take h); omega
  · have := (List.mem_replicate.mp h).2; omega
section
variable {bd B : Nat} {X Y : Hd} {W V T : Nat} {O : Sto}
theorem putKK {f : En → D} {es : List En} {n : Nat} (h : ∀ e ∈ es, e.k ≤ n) (e : En) (he : e.k = n + 1) : putD (kkB f es) (.inl ((n : Int) + 1)) (f e) = kkB f (es ++ [e]) := by
  have hn : (kkB f es).any (fun q => decide (q.1 = .inl ((n : Int) + 1))) = false := by
    rw [List.any_eq_false]
    intro q hq
    obtain ⟨y, hy, rfl⟩ := List.mem_map.mp hq
    have := h y hy
    have : ¬ ((Sum.inl (y.k : Int) : DKey) = .inl ((n : Int) + 1)) := fun z => by injection z with z; omega
    simp [this]
  unfold putD
  rw [hn]
  simp [kkB, he]
theorem delKK {f : En → D} (es : List En) (k : Nat) : delK (kkB f es) (.inl (k : Int)) = kkB f (es.filter fun e => decide (e.k ≠ k)) := by
  unfold delK kkB
  rw [List.filter_map]
  congr 1
  refine List.filter_congr fun e _ => ?_
  simp only [Function.comp, ne_eq, decide_not]
  by_cases q : e.k = k
  · subst q; simp
  · have : ¬ ((Sum.inl (e.k : Int) : DKey) = .inl (k : Int)) := fun z => q (by injection z with z; omega)
    simp [q, this]
/-- what a branch leaves -/
def Left (t : Nat) (X Y : Hd) (W V T bd B : Nat) (O O' : Sto) (n' : Nat) : Prop := ∃ X' Y' T', ST (bd + 1) B X' Y' W V T' O' ∧ X'.n = n' ∧ X'.n ≤ X.n + 1 ∧ X'.h = X.h ∧ Y'.h = Y.h ∧ T' ≤ T + t
theorem brD_ok (S : ST bd B X Y W V T O) (hb : bd ≤ 900) (sc : D) (k : Option D) (nm : Tx) (tu : Nat) (x10 x11 x12 x13 x14 x15 x16 : Option D) :
    ∃ O', brD (E17 sc k X.h Y.h W V (.int X.n) (.int tu) (some (.str nm)) x10 x11 x12 x13 x14 x15 x16) O = .nx (E17 sc k X.h Y.h W V (.int X.n) (.int tu) (some (.str nm)) x10 x11 x12 x13 x14 x15 x16) O' ∧ Left 60 X Y W V T bd B O O' X.n := by
  obtain ⟨L, C, hL, hC'⟩ := S.C
  obtain ⟨O1, e1, A1, F1⟩ := setlvB C.a nm tu (by omega)
  have C1 := C.stepX (by omega) A1 F1 (fun i hi => by simp at hi; subst hi; simp [Hd.own]) (fun i hi => .inl hi)
  obtain ⟨O2, e2, A2, F2⟩ := setlvB C.b nm tu (by omega)
  obtain ⟨O2, e2, A2, F2⟩ := setlvB C1.b nm tu (by omega)
  have A2' : HB (bd + 1) (Y.lev nm tu) O2 := by
    obtain ⟨O3, e3, A3, F3⟩ := setlvB (bd := bd) (X := Y) (O := O1) (C.b.fr F1 (fun i hi z => by simp at z; subst z; exact C.d1 _ (by simp [Hd.own]) hi)) nm tu (by omega)
    rw [e3] at e2
    cases e2
    exact A3
  have C2 := C1.stepY (Nat.le_refl _) A2' F2 (fun i hi => by simp at hi; subst hi; simp [Hd.own]) (fun i hi => .inl hi)
  have h1 : O[X.h]? = some (hC X.l X.c X.w X.n X.s) := C.a.h
  have h2 : O1[Y.h]? = some (hC Y.l Y.c Y.w Y.n Y.s) := C1.b.h
  refine ⟨O2, ?_, X.lev nm tu, Y.lev nm tu, T, ⟨S.P.lev nm tu, L, C2, by omega, hC'⟩, rfl, Nat.le_succ _, rfl, rfl, by omega⟩
  unfold brD
  refine cs_nx (r1 := E17 sc k X.h Y.h W V (.int X.n) (.int tu) (some (.str nm)) x10 x11 x12 x13 x14 x15 x16) (O1 := O1) (by simp [h1, hC, e1]) ?_
  simp [h2, hC, e2]
theorem brC_ok (ns : List Int) (S : ST bd B X Y W V T O) (hb : bd ≤ 900) (hT : T < 900000) (k : Option D) (nm : Tx) (tu : D) (x10 x11 x12 x13 x14 x15 x16 : Option D) :
    ∃ O', brC (E17 (.scr (ns.map D.int)) k X.h Y.h W V (.int X.n) tu (some (.str nm)) x10 x11 x12 x13 x14 x15 x16) O = .nx (E17 (.scr (ns.map D.int)) k X.h Y.h W V (.int X.n) tu (some (.str nm)) x10 x11 x12 x13 x14 x15 x16) O' ∧ Left 60 X Y W V T bd B O O' X.n := by
  have hs : sizeLine = 16777216 := sizeLine_nat
  obtain ⟨L, C, hL, hC'⟩ := S.C
  obtain ⟨v, O0, v0, v1, e0, t0, f0⟩ := draw_ok ns (m := 2) (by omega) (by omega) C.t
  have C0 := C.stepT f0 t0
  have hlt := ltg C0.v
  let L' := putD L (.inr nm) (.bl (v == 0))
  have C1 := C0.stepV (.dic L')
  have hl2 := put_lenN (.inr nm) (.bl (v == 0)) L
  have hix : ∀ O', O'[V]? = some (.dic L') → ixD (.ob V) (.str nm) O' = .ok (.bl (v == 0)) O' := fun O' hO => by
    rw [ix_obD hO]
    simp only [keyD]
    rw [getK_putN, if_pos rfl]
  obtain ⟨O1, e1, A1, F1⟩ := closeB C1.a nm (v == 0) (by omega)
  have C2 := C1.stepX (by omega) A1 F1 (fun i hi => by simp at hi; subst hi; simp [Hd.own]) (fun i hi => .inl hi)
  obtain ⟨O2, e2, A2, F2⟩ := closeB (bd := bd) (X := Y) (O := O1) (C1.b.fr F1 (fun i hi z => by simp at z; subst z; exact C1.d1 _ (by simp [Hd.own]) hi)) nm (v == 0) (by omega)
  have C3 := C2.stepY (Nat.le_refl _) A2 F2 (fun i hi => by simp at hi; subst hi; simp [Hd.own]) (fun i hi => .inl hi)
  have h1 := C1.a.h
  have h2 := C2.b.h
  have q1 := hix _ C1.v
  have q2 := hix _ C2.v
  have st : stoD (.ob V) (.str nm) (.bl (v == 0)) O0 = some (O0.set V (.dic L')) := by
    simp only [stoD, C0.v, keyD]
    rw [if_pos (by rw [hs]; omega)]
  refine ⟨O2, ?_, X.clo nm (v == 0), Y.clo nm (v == 0), T + 1, ⟨S.P.clo nm (v == 0), L', C3, by show (putD L (.inr nm) (.bl (v == 0))).length ≤ bd + 1; omega, fun k => ?_⟩, rfl, Nat.le_succ _, rfl, rfl, by omega⟩
  · generalize O0.set V (.dic L') = O0' at *
    have e0 : fn__law_draw [.scr (ns.map D.int), .ob 0, .int 2] O = .ok (.int v) O0 := e0
    generalize D.scr (ns.map D.int) = sc at *
    unfold brC
    have hv : eqD (.int v) (.int 0) O0 = .ok (.bl (v == 0)) O0 := by simp
    refine cs_nx (r1 := E17 sc k X.h Y.h W V (.int X.n) tu (some (.str nm)) x10 x11 x12 x13 x14 x15 x16) (O1 := O0') ?_ ?_
    · have : op2 eqD (fnE 3 fn__law_draw (consA (varE 0) (consA (varE 1) (consA (constE (.int 2)) nilA)))) (constE (.int 0)) (E17 sc k X.h Y.h W V (.int X.n) tu (some (.str nm)) x10 x11 x12 x13 x14 x15 x16) O = .ok (.bl (v == 0)) O0 := by
        have : fnE 3 fn__law_draw (consA (varE 0) (consA (varE 1) (consA (constE (.int 2)) nilA))) (E17 sc k X.h Y.h W V (.int X.n) tu (some (.str nm)) x10 x11 x12 x13 x14 x15 x16) O = .ok (.int v) O0 := by simp [e0]
        rw [ev_op2, this, bind_ok', ev_const, bind_ok', hv]
      rw [ev_asgS, this, bindS_ok']
      simp [subG, st]
    refine cs_nx (r1 := E17 sc k X.h Y.h W V (.int X.n) tu (some (.str nm)) x10 x11 x12 x13 x14 x15 x16) (O1 := O1) (by simp [h1, hC, q1, e1]) ?_
    simp [h2, hC, q2, e2]
  · show _ = D.bl (if k = nm then (v == 0) else X.Cl k)
    show (getK (putD L (.inr nm) (.bl (v == 0))) (.inr k)).getD (.bl false) = _
    rw [getK_putN]
    by_cases q : k = nm
    · subst q; simp
    · have : ¬ (Sum.inr k : DKey) = .inr nm := fun e => q (by injection e)
      rw [if_neg this, if_neg q]; exact hC' k
theorem brB_ok (ns : List Int) (S : ST bd B X Y W V T O) (hn : X.n < 64) (hT : T < 900000) (hne : X.es ≠ []) (k : Option D) (x9 : Option D) (tu : D) (x10 x11 x12 x13 x14 x15 x16 : Option D) :
    ∃ O' y15, brB (E17 (.scr (ns.map D.int)) k X.h Y.h W V (.int X.n) tu x9 x10 x11 x12 x13 x14 x15 x16) O = .nx (E17 (.scr (ns.map D.int)) k X.h Y.h W V (.int X.n) tu x9 x10 x11 x12 x13 x14 y15 x16) O' ∧ Left 10 X Y W V T bd B O O' X.n := by
  have hs : sizeLine = 16777216 := sizeLine_nat
  obtain ⟨L, C, hL, hC'⟩ := S.C
  have hel := C.a.el
  have so := sorted_kk C.w C.a.inc (by omega)
  obtain ⟨d, O0, hd, e0, t0, f0⟩ := pick_ok ns (ds := X.es.map fun e => D.int e.k) (by simpa using hne) (by omega) C.t
  obtain ⟨e, he, rfl⟩ := List.mem_map.mp hd
  have C0 := C.stepT f0 t0
  have C1 := C0.stepW (.dic (kkB wlD (X.es.filter fun y => decide (y.k ≠ e.k))))
  have gw := kk_at (f := wlD) C.a.inc he
  have pop : popD (.ob W) (.int (e.k : Int)) O0 = .ok (wlD e) (O0.set W (.dic (kkB wlD (X.es.filter fun y => decide (y.k ≠ e.k))))) := by
    have hdi : dicOf (.ob W) O0 = some (W, kkB wlD X.es) := by simp [dicOf, C0.w]
    simp only [popD, hdi, keyD, gw, delKK]
  have tyd : tyDic (.ob W) O0 = true := by simp [tyDic, dicOf, C0.w]
  obtain ⟨O1, e1, A1, F1⟩ := awayB C1.a he
  have C2 := C1.stepX (Nat.le_refl _) A1 F1 (fun i hi => by simp at hi; subst hi; simp [Hd.own]) (fun i hi => .inl (own_less X e.k i hi))
  obtain ⟨y, hy, qy⟩ := core_mem S.P.es.symm he
  have hyk := (core_eq qy).1
  obtain ⟨O2, e2, A2, F2⟩ := awayB C2.b hy
  rw [hyk] at e2 A2
  have C3 := C2.stepY (Nat.le_refl _) A2 F2 (fun i hi => by simp at hi; subst hi; simp [Hd.own]) (fun i hi => .inl (own_less Y e.k i hi))
  have h1 := C1.a.h
  have h2 := C2.b.h
  refine ⟨O2, some (.int e.k), ?_, X.less e.k, Y.less e.k, T + 1, ⟨S.P.less e.k, L, C3.up (Nat.le_succ _), by omega, hC'⟩, rfl, Nat.le_succ _, rfl, rfl, by omega⟩
  generalize O0.set W (.dic (kkB wlD (X.es.filter fun y => decide (y.k ≠ e.k)))) = O0' at *
  have e0 : fn__law_pick [.scr (ns.map D.int), .ob 0, .lst (X.es.map fun e => D.int e.k)] O = .ok (.int e.k) O0 := e0
  generalize (X.es.map fun e => D.int e.k) = NL at *
  generalize D.scr (ns.map D.int) = sc at *
  unfold brB
  refine cs_nx (r1 := E17 sc k X.h Y.h W V (.int X.n) tu x9 x10 x11 x12 x13 x14 (some (.int e.k)) x16) (O1 := O0) (by simp [so, e0]) ?_
  refine cs_nx (r1 := E17 sc k X.h Y.h W V (.int X.n) tu x9 x10 x11 x12 x13 x14 (some (.int e.k)) x16) (O1 := O0') (by simp [popE, tyd, pop]) ?_
  refine cs_nx (r1 := E17 sc k X.h Y.h W V (.int X.n) tu x9 x10 x11 x12 x13 x14 (some (.int e.k)) x16) (O1 := O1) (by simp [h1, hC, e1]) ?_
  simp [h2, hC, e2]
end
end Lk34
set_option linter.all false
set_option maxRecDepth 100000
set_option maxHeartbeats 4000000
namespace Lk34
open Dn PySem
section
variable {bd B : Nat} {X Y : Hd} {W V T : Nat} {O : Sto}
theorem wr_mk {nm : Tx} (hN : Nm nm) {ls : Nat} (hl : ls < 100) {g : Gate} (hf : gfin g = true) (hz : gsz g ≤ 29) : WrOk ⟨nm, ls, g, FM, FP⟩ := ⟨hN, hl, hf, hz, by show FM.length ≤ 300; decide, fm_rd⟩
theorem brA_ok (ns : List Int) (S : ST bd B X Y W V T O) (hn : X.n < 64) (hT : T < 700000) (k : Option D) {nm : Tx} (hN : Nm nm) (tu : D) (x10 x11 x12 x13 x14 x15 x16 : Option D) :
    ∃ O' y11 y12 y13, brA (E17 (.scr (ns.map D.int)) k X.h Y.h W V (.int X.n) tu (some (.str nm)) x10 x11 x12 x13 x14 x15 x16) O = .nx (E17 (.scr (ns.map D.int)) k X.h Y.h W V (.int ((X.n + 1 : Nat) : Int)) tu (some (.str nm)) x10 y11 y12 y13 x14 x15 x16) O' ∧ Left 60 X Y W V T bd B O O' (X.n + 1) := by
  have hs : sizeLine = 16777216 := sizeLine_nat
  obtain ⟨L, C, hL, hC'⟩ := S.C
  -- the gate
  obtain ⟨g0, O0, T0, G0, hT0, t0, f0, e0⟩ := gate_town ns 1 100 (t := T) (O := O) (by omega) (by omega) (by omega) C.t
  have gz : gsz g0 ≤ 3 := by have := G0.z; omega
  obtain ⟨d1, O1, hd1, e1, t1, f1⟩ := pick_ok ns (ds := [.tup [.str [121, 101, 115]], gateD g0]) (by simp) (by omega) t0
  obtain ⟨g, hgf, hgz, rfl⟩ : ∃ g, gfin g = true ∧ gsz g ≤ 3 ∧ d1 = gateD g := by
    simp only [List.mem_cons, List.not_mem_nil, or_false] at hd1
    rcases hd1 with rfl | rfl
    · exact ⟨.yes, rfl, by decide, rfl⟩
    · exact ⟨g0, G0.f, gz, rfl⟩
  -- the least level
  obtain ⟨v, O2, v0, v1, e2, t2, f2⟩ := draw_ok ns (m := 60) (by omega) (by omega) t1
  obtain ⟨d2, O3, hd2, e3, t3, f3⟩ := pick_ok ns (ds := [.int 0, .int v]) (by simp) (by omega) t2
  obtain ⟨ls, hls, rfl⟩ : ∃ ls : Nat, ls < 60 ∧ d2 = .int ls := by
    simp only [List.mem_cons, List.not_mem_nil, or_false] at hd2
    rcases hd2 with rfl | rfl
    · exact ⟨0, by omega, rfl⟩
    · exact ⟨v.toNat, by omega, by rw [show ((v.toNat : Nat) : Int) = v by omega]⟩
  have Wr0 := wr_mk hN (ls := ls) (by omega) hgf (show gsz g ≤ 29 by omega)
  have C3 := C.stepT (f0.trans (f1.trans (f2.trans f3))) t3
  have sh := fun O => shown_ok g 100 (by have := gdep_lt g; omega) hgf (by omega) O
  obtain ⟨O4, e4, A4, l4, F4⟩ := addB Wr0 C3.a (by omega)
  have C4 := C3.stepX (Nat.le_refl _) A4 F4 (fun i hi => by simp at hi; rcases hi with rfl | rfl <;> simp [Hd.own]) (own_more X O3.length _)
  have hyn := S.P.n
  obtain ⟨O5, e5, A5, l5, F5⟩ := addB Wr0 C4.b (by omega)
  rw [hyn] at e5
  have C5 := C4.stepY (Nat.le_refl _) A5 F5 (fun i hi => by simp at hi; rcases hi with rfl | rfl <;> simp [Hd.own]) (own_more Y O4.length _)
  have C6 := C5.stepW (.dic (kkB wlD (X.more O3.length ⟨nm, ls, g, FM, FP⟩).es))
  have hpu := putKK (f := wlD) (es := X.es) (n := X.n) (fun e he => (C.a.kn e he).2) ⟨X.n + 1, O3.length, O3.length + 1, ⟨nm, ls, g, FM, FP⟩, []⟩ rfl
  have hel := C.a.el
  have st : stoD (.ob W) (.int ((X.n : Int) + 1)) (.tup [.str nm, .int ls, gateD g, .str FM]) O5 = some (O5.set W (.dic (kkB wlD (X.more O3.length ⟨nm, ls, g, FM, FP⟩).es))) := by
    simp only [stoD, C5.w, keyD]
    have hlen : (kkB wlD X.es).length = X.es.length := by simp [kkB]
    rw [if_pos (by rw [hlen, hs]; omega)]
    have hpu' : putD (kkB wlD X.es) (.inl ((X.n : Int) + 1)) (.tup [.str nm, .int ls, gateD g, .str FM]) = _ := hpu
    rw [hpu']; rfl
  have h1 := C3.a.h
  have h2 := C4.b.h
  refine ⟨O5.set W (.dic (kkB wlD (X.more O3.length ⟨nm, ls, g, FM, FP⟩).es)), some (gateD g), some (.int ls), some (.tup [.str nm, .int ls, gateD g, .str FM]), ?_, X.more O3.length ⟨nm, ls, g, FM, FP⟩, Y.more O4.length ⟨nm, ls, g, FM, FP⟩, T0 + 1 + 1 + 1, ⟨S.P.more _ _ Wr0 rfl, L, C6.up (Nat.le_succ _), by omega, hC'⟩, rfl, Nat.le_refl _, rfl, rfl, by omega⟩
  generalize O5.set W (.dic (kkB wlD (X.more O3.length ⟨nm, ls, g, FM, FP⟩).es)) = O6 at *
  have e0 : fn__law_gate 100 [.scr (ns.map D.int), .ob 0, .int 1] O = .ok (gateD g0) O0 := e0
  have e1 : fn__law_pick [.scr (ns.map D.int), .ob 0, .lst [.tup [.str [121, 101, 115]], gateD g0]] O0 = .ok (gateD g) O1 := e1
  have e2 : fn__law_draw [.scr (ns.map D.int), .ob 0, .int 60] O1 = .ok (.int v) O2 := e2
  have e3 : fn__law_pick [.scr (ns.map D.int), .ob 0, .lst [.int 0, .int v]] O2 = .ok (.int ls) O3 := e3
  have sh : ∀ O, closeFn (fn_shown 100) [gateD g] O = .ok (.str (gt g)) O := sh
  have e4 : fn_Hall_add_writer [.ob X.h, .str nm, .int ls, .str (gt g), .str FM] O3 = .ok (.int ((X.n : Int) + 1)) O4 := e4
  have e5 : fn_Hall_add_writer [.ob Y.h, .str nm, .int ls, .str (gt g), .str FM] O4 = .ok (.int ((X.n : Int) + 1)) O5 := e5
  have hFM : (constE (.str [123, 109, 111, 109, 101, 110, 116, 125, 32, 123, 119, 111, 114, 100, 115, 61, 57, 125]) : DE0) = constE (.str FM) := rfl
  have hcast : ((X.n + 1 : Nat) : Int) = (X.n : Int) + 1 := by omega
  rw [hcast]
  generalize D.scr (ns.map D.int) = sc at *
  generalize gateD g0 = GD0 at *
  generalize gateD g = GD at *
  generalize gt g = GT at *
  unfold brA
  rw [hFM]
  generalize FM = FX at *
  refine cs_nx (r1 := E17 sc k X.h Y.h W V (.int X.n) tu (some (.str nm)) x10 (some GD) x12 x13 x14 x15 x16) (O1 := O1) (by simp [e0, e1, hs]) ?_
  refine cs_nx (r1 := E17 sc k X.h Y.h W V (.int X.n) tu (some (.str nm)) x10 (some GD) (some (.int ls)) x13 x14 x15 x16) (O1 := O3) (by simp [e2, e3, hs]) ?_
  refine cs_nx (r1 := E17 sc k X.h Y.h W V (.int ((X.n : Int) + 1)) tu (some (.str nm)) x10 (some GD) (some (.int ls)) (some (.tup [.str nm, .int ls, GD, .str FX])) x14 x15 x16) (O1 := O3) (by simp [hs, tupG, seqR]) ?_
  refine cs_nx (r1 := E17 sc k X.h Y.h W V (.int ((X.n : Int) + 1)) tu (some (.str nm)) x10 (some GD) (some (.int ls)) (some (.tup [.str nm, .int ls, GD, .str FX])) x14 x15 x16) (O1 := O5) ?_ ?_
  · refine if_f (O1 := O5) ?_ rfl
    have a1 : methE 5 5 fn_Hall_add_writer (varE 14) (consA (varE 9) (consA (varE 12) (consA (fnE 1 (closeFn (fn_shown 100)) (consA (varE 11) nilA)) (consA (op2 ixD (varE 13) (constE (.int 3))) nilA)))) (E17 sc k X.h Y.h W V (.int ((X.n : Int) + 1)) tu (some (.str nm)) x10 (some GD) (some (.int ls)) (some (.tup [.str nm, .int ls, GD, .str FX])) (some (.ob X.h)) x15 x16) O3 = .ok (.int ((X.n : Int) + 1)) O4 := by
      simp [h1, hC, sh, e4]
    have a2 : methE 5 5 fn_Hall_add_writer (varE 14) (consA (varE 9) (consA (varE 12) (consA (fnE 1 (closeFn (fn_shown 100)) (consA (varE 11) nilA)) (consA (op2 ixD (varE 13) (constE (.int 3))) nilA)))) (E17 sc k X.h Y.h W V (.int ((X.n : Int) + 1)) tu (some (.str nm)) x10 (some GD) (some (.int ls)) (some (.tup [.str nm, .int ls, GD, .str FX])) (some (.ob Y.h)) x15 x16) O4 = .ok (.int ((X.n : Int) + 1)) O5 := by
      simp [h2, hC, sh, e5]
    have es : seqI (tupE (consA (varE 3) (consA (varE 4) nilA))) (E17 sc k X.h Y.h W V (.int ((X.n : Int) + 1)) tu (some (.str nm)) x10 (some GD) (some (.int ls)) (some (.tup [.str nm, .int ls, GD, .str FX])) x14 x15 x16) O3 = .ok ⟨[.ob X.h, .ob Y.h], []⟩ O3 := by simp [hs]
    have lc : lcL (nameG 14) yesT (methE 5 5 fn_Hall_add_writer (varE 14) (consA (varE 9) (consA (varE 12) (consA (fnE 1 (closeFn (fn_shown 100)) (consA (varE 11) nilA)) (consA (op2 ixD (varE 13) (constE (.int 3))) nilA))))) [] (wipeR (E17 sc k X.h Y.h W V (.int ((X.n : Int) + 1)) tu (some (.str nm)) x10 (some GD) (some (.int ls)) (some (.tup [.str nm, .int ls, GD, .str FX])) x14 x15 x16) [14]) [.ob X.h, .ob Y.h] [] O3 = .ok [.int ((X.n : Int) + 1), .int ((X.n : Int) + 1)] O5 := by
      have g1 : nameG 14 (.ob X.h) (wipeR (E17 sc k X.h Y.h W V (.int ((X.n : Int) + 1)) tu (some (.str nm)) x10 (some GD) (some (.int ls)) (some (.tup [.str nm, .int ls, GD, .str FX])) x14 x15 x16) [14]) O3 = some (E17 sc k X.h Y.h W V (.int ((X.n : Int) + 1)) tu (some (.str nm)) x10 (some GD) (some (.int ls)) (some (.tup [.str nm, .int ls, GD, .str FX])) (some (.ob X.h)) x15 x16, O3) := rfl
      have g2 : nameG 14 (.ob Y.h) (wipeR (E17 sc k X.h Y.h W V (.int ((X.n : Int) + 1)) tu (some (.str nm)) x10 (some GD) (some (.int ls)) (some (.tup [.str nm, .int ls, GD, .str FX])) x14 x15 x16) [14]) O4 = some (E17 sc k X.h Y.h W V (.int ((X.n : Int) + 1)) tu (some (.str nm)) x10 (some GD) (some (.int ls)) (some (.tup [.str nm, .int ls, GD, .str FX])) (some (.ob Y.h)) x15 x16, O4) := rfl
      simp only [lcL, still_nil, if_true, g1, g2, ev_yesT, a1, a2, List.length_nil, List.length_cons, List.nil_append, List.cons_append]
      rw [hs]
      simp
    have hne : neD (.lst [.int ((X.n : Int) + 1), .int ((X.n : Int) + 1)]) (.lst [.int ((X.n : Int) + 1), .int ((X.n : Int) + 1)]) O5 = .ok (.bl false) O5 := ne_same (n := 2) (by omega) (okN_ls fun d hd => by
      simp only [List.mem_cons, List.not_mem_nil, or_false, or_self] at hd
      subst hd; exact okN_int _) rfl rfl
    rw [ev_cmpT, ev_lcE, es, bind_ok', lc, bind_ok']
    show ((Res.ok (D.lst [.int ((X.n : Int) + 1), .int ((X.n : Int) + 1)]) O5).bind _).bind asB = _
    rw [bind_ok']
    have ll : lstE false (consA (varE 7) (consA (varE 7) nilA)) (E17 sc k X.h Y.h W V (.int ((X.n : Int) + 1)) tu (some (.str nm)) x10 (some GD) (some (.int ls)) (some (.tup [.str nm, .int ls, GD, .str FX])) x14 x15 x16) O5 = .ok (.lst [.int ((X.n : Int) + 1), .int ((X.n : Int) + 1)]) O5 := by simp [hs]
    rw [ll, bind_ok', hne]; rfl
  · simp [subG, st]
end
end Lk34
set_option linter.all false
set_option maxRecDepth 100000
set_option maxHeartbeats 4000000
namespace Lk34
open Dn PySem
section
variable {bd B : Nat} {X Y : Hd} {W V T : Nat} {O : Sto}
theorem ST.off (S : ST bd B X Y W V T O) {O' : Sto} {T' : Nat} (h : Off O O') (t : TownAt O' T') : ST bd B X Y W V T' O' := ⟨S.P, let ⟨L, C, r⟩ := S.C; ⟨L, C.stepT h t, r⟩⟩
theorem ST.up (S : ST bd B X Y W V T O) {bd' : Nat} (h : bd ≤ bd') : ST bd' B X Y W V T O := ⟨S.P, let ⟨L, C, h1, h2⟩ := S.C; ⟨L, C.up h, by omega, h2⟩⟩
theorem ST.tw (S : ST bd B X Y W V T O) : TownAt O T := let ⟨_, C, _⟩ := S.C; C.t
theorem deeds_ok (ns : List Int) (S : ST bd B X Y W V T O) (hb : bd ≤ 900) (hn : X.n < 60) (hT : T < 700000) (k : Option D) {nm : Tx} (hN : Nm nm) (tu : Nat) {wd : Int} (w0 : 0 ≤ wd) (w1 : wd < 7) (x11 x12 x13 x14 x15 x16 : Option D) :
    ∃ O' y11 y12 y13 y15 n', deeds (E17 (.scr (ns.map D.int)) k X.h Y.h W V (.int X.n) (.int tu) (some (.str nm)) (some (.int wd)) x11 x12 x13 x14 x15 x16) O = .nx (E17 (.scr (ns.map D.int)) k X.h Y.h W V (.int ((n' : Nat) : Int)) (.int tu) (some (.str nm)) (some (.int wd)) y11 y12 y13 x14 y15 x16) O' ∧ Left 60 X Y W V T bd B O O' n' := by
  obtain ⟨L, C, hL, hC'⟩ := S.C
  have tru : ∀ r, truT (varE 5) (E17 (.scr (ns.map D.int)) k X.h Y.h W V (.int X.n) (.int tu) (some (.str nm)) r x11 x12 x13 x14 x15 x16) O = .ok (!X.es.isEmpty) O := fun r => by
    have : truD (.ob W) O = .ok (!X.es.isEmpty) O := by
      unfold truD
      simp only [C.w]
      simp [kkB]
    generalize D.scr (ns.map D.int) = sc
    simp [this]
  by_cases q1 : wd < 2
  · obtain ⟨O', y11, y12, y13, e, hl⟩ := brA_ok ns S (by omega) hT k hN (.int tu) (some (.int wd)) x11 x12 x13 x14 x15 x16
    refine ⟨O', y11, y12, y13, x15, X.n + 1, ?_, hl⟩
    unfold deeds
    refine if_t (O1 := O) ?_ e
    generalize D.scr (ns.map D.int) = sc
    simp; omega
  have c1 : cmpT ltD (varE 10) (constE (.int 2)) (E17 (.scr (ns.map D.int)) k X.h Y.h W V (.int X.n) (.int tu) (some (.str nm)) (some (.int wd)) x11 x12 x13 x14 x15 x16) O = .ok false O := by
    generalize D.scr (ns.map D.int) = sc
    simp; omega
  by_cases q2 : wd = 2
  · subst q2
    have b3 : ∀ O', (ifS (cmpT eqD (varE 10) (constE (.int 3))) brC (ifS (cmpT eqD (varE 10) (constE (.int 4))) brD nilS)) (E17 (.scr (ns.map D.int)) k X.h Y.h W V (.int X.n) (.int tu) (some (.str nm)) (some (.int 2)) x11 x12 x13 x14 x15 x16) O' = .nx (E17 (.scr (ns.map D.int)) k X.h Y.h W V (.int X.n) (.int tu) (some (.str nm)) (some (.int 2)) x11 x12 x13 x14 x15 x16) O' := fun O' => by
      generalize D.scr (ns.map D.int) = sc
      refine if_f (O1 := O') (by simp) ?_
      exact if_f (O1 := O') (by simp) rfl
    cases q3 : X.es.isEmpty with
    | true =>
      rw [q3] at tru
      refine ⟨O, x11, x12, x13, x15, X.n, ?_, X, Y, T, S.up (Nat.le_succ _), rfl, Nat.le_succ _, rfl, rfl, by omega⟩
      unfold deeds
      refine if_f (O1 := O) c1 ?_
      refine if_f (O1 := O) ?_ (b3 O)
      have tr := tru (some (.int 2))
      generalize D.scr (ns.map D.int) = sc at *
      have e2 : cmpT eqD (varE 10) (constE (.int 2)) (E17 sc k X.h Y.h W V (.int X.n) (.int tu) (some (.str nm)) (some (.int 2)) x11 x12 x13 x14 x15 x16) O = .ok true O := by simp
      rw [ev_andT, e2, bind_ok', if_pos rfl, ev_andT, tr]; rfl
    | false =>
      rw [q3] at tru
      obtain ⟨v, O0, v0, v1, e0, t0, f0⟩ := draw_ok ns (m := 2) (by omega) (by omega) C.t
      have S0 := S.off f0 t0
      have e0 : fn__law_draw [.scr (ns.map D.int), .ob 0, .int 2] O = .ok (.int v) O0 := e0
      have cnd : andT (cmpT eqD (varE 10) (constE (.int 2))) (andT (truT (varE 5)) (truT (fnE 3 fn__law_draw (consA (varE 0) (consA (varE 1) (consA (constE (.int 2)) nilA)))))) (E17 (.scr (ns.map D.int)) k X.h Y.h W V (.int X.n) (.int tu) (some (.str nm)) (some (.int 2)) x11 x12 x13 x14 x15 x16) O = .ok (v != 0) O0 := by
        have tr := tru (some (.int 2))
        generalize D.scr (ns.map D.int) = sc at *
        have e2 : cmpT eqD (varE 10) (constE (.int 2)) (E17 sc k X.h Y.h W V (.int X.n) (.int tu) (some (.str nm)) (some (.int 2)) x11 x12 x13 x14 x15 x16) O = .ok true O := by simp
        have e3 : truT (fnE 3 fn__law_draw (consA (varE 0) (consA (varE 1) (consA (constE (.int 2)) nilA)))) (E17 sc k X.h Y.h W V (.int X.n) (.int tu) (some (.str nm)) (some (.int 2)) x11 x12 x13 x14 x15 x16) O = .ok (v != 0) O0 := by simp [e0]
        rw [ev_andT, e2, bind_ok', if_pos rfl, ev_andT, tr, bind_ok']
        exact e3
      cases q4 : (v != 0) with
      | true =>
        rw [q4] at cnd
        obtain ⟨O', y15, e, X', Y', T', S', h1, h2, h3, h4, h5⟩ := brB_ok ns S0 (by omega) (by omega) (fun z => by rw [z] at q3; cases q3) k (some (.str nm)) (.int tu) (some (.int 2)) x11 x12 x13 x14 x15 x16
        refine ⟨O', x11, x12, x13, y15, X.n, ?_, X', Y', T', S', h1, h2, h3, h4, by omega⟩
        unfold deeds
        exact if_f (O1 := O) c1 (if_t (O1 := O0) cnd e)
      | false =>
        rw [q4] at cnd
        refine ⟨O0, x11, x12, x13, x15, X.n, ?_, X, Y, T + 1, S0.up (Nat.le_succ _), rfl, Nat.le_succ _, rfl, rfl, by omega⟩
        unfold deeds
        exact if_f (O1 := O) c1 (if_f (O1 := O0) cnd (b3 O0))
  have c2 : andT (cmpT eqD (varE 10) (constE (.int 2))) (andT (truT (varE 5)) (truT (fnE 3 fn__law_draw (consA (varE 0) (consA (varE 1) (consA (constE (.int 2)) nilA)))))) (E17 (.scr (ns.map D.int)) k X.h Y.h W V (.int X.n) (.int tu) (some (.str nm)) (some (.int wd)) x11 x12 x13 x14 x15 x16) O = .ok false O := by
    generalize D.scr (ns.map D.int) = sc
    have e2 : cmpT eqD (varE 10) (constE (.int 2)) (E17 sc k X.h Y.h W V (.int X.n) (.int tu) (some (.str nm)) (some (.int wd)) x11 x12 x13 x14 x15 x16) O = .ok false O := by simp [q2]
    rw [ev_andT, e2]; rfl
  by_cases q3 : wd = 3
  · subst q3
    obtain ⟨O', e, hl⟩ := brC_ok ns S hb (by omega) k nm (.int tu) (some (.int 3)) x11 x12 x13 x14 x15 x16
    refine ⟨O', x11, x12, x13, x15, X.n, ?_, hl⟩
    unfold deeds
    refine if_f (O1 := O) c1 (if_f (O1 := O) c2 (if_t (O1 := O) ?_ e))
    generalize D.scr (ns.map D.int) = sc
    simp
  have c3 : cmpT eqD (varE 10) (constE (.int 3)) (E17 (.scr (ns.map D.int)) k X.h Y.h W V (.int X.n) (.int tu) (some (.str nm)) (some (.int wd)) x11 x12 x13 x14 x15 x16) O = .ok false O := by
    generalize D.scr (ns.map D.int) = sc
    simp [q3]
  by_cases q4 : wd = 4
  · subst q4
    obtain ⟨O', e, hl⟩ := brD_ok S hb (.scr (ns.map D.int)) k nm tu (some (.int 4)) x11 x12 x13 x14 x15 x16
    refine ⟨O', x11, x12, x13, x15, X.n, ?_, hl⟩
    unfold deeds
    refine if_f (O1 := O) c1 (if_f (O1 := O) c2 (if_f (O1 := O) c3 (if_t (O1 := O) ?_ e)))
    generalize D.scr (ns.map D.int) = sc
    simp
  · refine ⟨O, x11, x12, x13, x15, X.n, ?_, X, Y, T, S.up (Nat.le_succ _), rfl, Nat.le_succ _, rfl, rfl, by omega⟩
    unfold deeds
    refine if_f (O1 := O) c1 (if_f (O1 := O) c2 (if_f (O1 := O) c3 (if_f (O1 := O) ?_ rfl)))
    generalize D.scr (ns.map D.int) = sc
    simp [q4]
/-- one turn -/
theorem turn_ok (ns : List Int) (S : ST bd B X Y W V T O) (hb : bd ≤ 900) (hB : B ≤ 90000) (hn : X.n < 60) (hT : T < 600000) (k : Option D) (tu : Nat) (htu : tu < 1000) (x9 x10 x11 x12 x13 x14 x15 x16 : Option D) :
    ∃ O' X' Y' T' y9 y10 y11 y12 y13 y15 y16, Q_law_1 (E17 (.scr (ns.map D.int)) k X.h Y.h W V (.int X.n) (.int tu) x9 x10 x11 x12 x13 x14 x15 x16) O = .nx (E17 (.scr (ns.map D.int)) k X'.h Y'.h W V (.int X'.n) (.int tu) y9 y10 y11 y12 y13 x14 y15 y16) O' ∧
      ST (bd + 1) (B + 1) X' Y' W V T' O' ∧ X'.n ≤ X.n + 1 ∧ T' ≤ T + 100 := by
  have hs : sizeLine = 16777216 := sizeLine_nat
  rw [Q1_is]
  obtain ⟨nm, O1, T1, hN, hnl, hT1, t1, f1, e1⟩ := town_nameN ns (by omega) S.tw
  obtain ⟨wd, O2, w0, w1, e2, t2, f2⟩ := draw_ok ns (m := 7) (by omega) (by omega) t1
  have S2 := S.off (f1.trans f2) t2
  obtain ⟨L, C2, hL, hC'⟩ := S2.C
  have rf := refused_ok C2.b nm (by rw [S2.P.n]; omega) S2.P.roY
  rw [S2.P.keysY] at rf
  have lk : callE (listKF false) (consA (varE 5) nilA) (E17 (.scr (ns.map D.int)) k X.h Y.h W V (.int X.n) (.int tu) (some (.str nm)) (some (.int wd)) x11 x12 x13 x14 x15 x16) O2 = .ok (.lst (X.es.map fun e => D.int e.k)) O2 := by
    have hd : dicOf (.ob W) O2 = some (W, kkB wlD X.es) := by simp [dicOf, C2.w]
    have := kk_keys wlD X.es
    have hv : (consA (varE 5) nilA) (E17 (.scr (ns.map D.int)) k X.h Y.h W V (.int X.n) (.int tu) (some (.str nm)) (some (.int wd)) x11 x12 x13 x14 x15 x16) O2 = .ok [.ob W] O2 := by
      generalize D.scr (ns.map D.int) = sc
      simp
    rw [ev_callE, hv, bind_ok']
    unfold listKF
    simp only [hd, this]
    rfl
  obtain ⟨O3, y11, y12, y13, y15, n', e3, X', Y', T3, S3, hn', hn2, hxh, hyh, hT3⟩ := deeds_ok ns S2 hb hn (by omega) k hN tu w0 w1 x11 x12 x13 x14 x15 x16
  subst hn'
  rw [← hxh, ← hyh] at e3
  obtain ⟨l, name, words, O4, T4, hNm, hl, hnl2, hwl, hwc, hT4, t4, f4, e4⟩ := town_recordW ns (by omega) S3.tw (.int tu)
  have S4 := S3.off f4 t4
  have R : Rs tu l name words := ⟨by omega, hl, by omega, by omega⟩
  obtain ⟨L4, C4, hL4, hC4⟩ := S4.C
  have hx3 : X'.n < 64 := by omega
  have ps : ∀ e ∈ X'.es, ∀ c ∈ lay tu l name words e.x.ps, c < 1114112 := fun e he => by
    rw [ps_is (S4.P.ok e he).1 (S4.P.ok e he).2]; exact lay_chars hwc
  have psY : ∀ e ∈ Y'.es, ∀ c ∈ lay tu l name words e.x.ps, c < 1114112 := fun e he => by
    rw [ps_is (S4.P.okY e he).1 (S4.P.okY e he).2]; exact lay_chars hwc
  obtain ⟨O5, e5, A5, F5⟩ := told_ok R hNm C4.a C4.w (fun e he => (S4.P.ok e he).1) hx3 C4.v hC4 (fun z => (C4.d2 W z).1 rfl) (fun e he => by have := S4.P.rl e he; omega) S4.P.ro ps
  have C5 := C4.stepX (Nat.le_refl _) A5 F5 (own_texts X') (fun i hi => .inl (by rw [own_told X' hNm] at hi; exact hi))
  have hw5 : O5[W]? = some (.dic (kkB wlD Y'.es)) := by rw [S4.P.kkY]; exact C5.w
  obtain ⟨O6, e6, A6, F6⟩ := told_ok R hNm C5.b hw5 (fun e he => (S4.P.okY e he).1) (by rw [S4.P.n]; omega) C5.v (by rw [S4.P.Cl]; exact hC4) (fun z => (C4.d3 W z).1 rfl) (fun e he => by have := S4.P.rlY e he; omega) S4.P.roY psY
  have C6 := C5.stepY (Nat.le_refl _) A6 F6 (own_texts Y') (fun i hi => .inl (by rw [own_told Y' hNm] at hi; exact hi))
  have P6 := S4.P.told hNm tu l words ps
  have kk6 : kkB wlD (X'.told tu l name words).es = kkB wlD X'.es := by
    have hes : (X'.told tu l name words).es = X'.es.map (upAll tu (X'.ways l name) l name words) := upsB_eq tu l name words (X'.ways l name) X'.es (X'.ways_nd hNm l)
    rw [hes]
    simp only [kkB, List.map_map]
    refine List.map_congr_left fun e _ => ?_
    obtain ⟨u1, u2, u3, u4⟩ := upAll_k tu l (X'.ways l name) name words e
    simp [Function.comp, u1, wlD, u4]
  have S6 : ST (bd + 1) (B + 1) (X'.told tu l name words) (Y'.told tu l name words) W V T4 O6 := ⟨P6, L4, by rw [kk6]; exact C6, hL4, hC4⟩
  -- any rows differ
  have any : lcKE false (varE 5) (nameG 15) yesT (op2 neD (methE 5 2 fn_Hall_rows (varE 3) (consA (varE 15) nilA)) (methE 5 2 fn_Hall_rows (varE 4) (consA (varE 15) nilA))) [15] (E17 (.scr (ns.map D.int)) k X'.h Y'.h W V (.int X'.n) (.int tu) (some (.str nm)) (some (.int wd)) y11 y12 y13 x14 y15 (some (recD tu l name words))) O6 = .ok (.lst ((X'.told tu l name words).es.map fun _ => D.bl false)) O6 := by
    have w6 : O6[W]? = some (.dic (kkB wlD (X'.told tu l name words).es)) := by rw [kk6]; exact C6.w
    have hel := C6.a.el
    have hxn : (X'.told tu l name words).n = X'.n := rfl
    refine lcK_map (X'.told tu l name words).es (fun e => D.int e.k) (fun _ => D.bl false) w6 (fun O' => by
      generalize D.scr (ns.map D.int) = sc
      simp) (kk_keys wlD _) (fun u e he => ⟨E17 (.scr (ns.map D.int)) k X'.h Y'.h W V (.int X'.n) (.int tu) (some (.str nm)) (some (.int wd)) y11 y12 y13 x14 (some (.int e.k)) (some (recD tu l name words)), rfl, ?_⟩) (by rw [hs]; omega)
    have C7 := C6.stepW (.loc u (kkB wlD (X'.told tu l name words).es))
    have r1 := rowsB C7.a he
    obtain ⟨y, hy, qy⟩ := core_mem P6.es.symm he
    have r2 := rowsB C7.b hy
    rw [(core_eq qy).1, (core_eq qy).2.2] at r2
    have h1 := C7.a.h
    have h2 := C7.b.h
    have hne := ne_tup (n := 2) (O := O6.set W (.loc u (kkB wlD (X'.told tu l name words).es))) (by omega) (okN_row (P6.ro.c e he))
    have hXh : (X'.told tu l name words).h = X'.h := rfl
    have hYh : (Y'.told tu l name words).h = Y'.h := rfl
    rw [hXh] at r1 h1
    rw [hYh] at r2 h2
    generalize O6.set W (.loc u (kkB wlD (X'.told tu l name words).es)) = O7 at *
    generalize e.r.map D.str = RR at *
    generalize recD tu l name words = RD at *
    generalize D.scr (ns.map D.int) = sc at *
    have m1 : methE 5 2 fn_Hall_rows (varE 3) (consA (varE 15) nilA) (E17 sc k X'.h Y'.h W V (.int X'.n) (.int tu) (some (.str nm)) (some (.int wd)) y11 y12 y13 x14 (some (.int e.k)) (some RD)) O7 = .ok (.tup RR) O7 := by simp [h1, hC, r1]
    have m2 : methE 5 2 fn_Hall_rows (varE 4) (consA (varE 15) nilA) (E17 sc k X'.h Y'.h W V (.int X'.n) (.int tu) (some (.str nm)) (some (.int wd)) y11 y12 y13 x14 (some (.int e.k)) (some RD)) O7 = .ok (.tup RR) O7 := by simp [h2, hC, r2]
    rw [ev_op2, m1, bind_ok', m2, bind_ok', hne]
  refine ⟨O6, X'.told tu l name words, Y'.told tu l name words, T4, some (.str nm), some (.int wd), y11, y12, y13, y15, some (recD tu l name words), ?_, S6, hn2, by omega⟩
  have e1 : fn__law_name [.scr (ns.map D.int), .ob 0] O = .ok (.str nm) O1 := e1
  have e2 : fn__law_draw [.scr (ns.map D.int), .ob 0, .int 7] O1 = .ok (.int wd) O2 := e2
  have e4 : fn__law_record [.scr (ns.map D.int), .ob 0, .int tu] O3 = .ok (recD tu l name words) O4 := e4
  refine cs_nx (r1 := E17 (.scr (ns.map D.int)) k X.h Y.h W V (.int X.n) (.int tu) (some (.str nm)) (some (.int wd)) x11 x12 x13 x14 x15 x16) (O1 := O2) ?_ ?_
  · unfold st0
    generalize D.scr (ns.map D.int) = sc at *
    simp [e1, e2, hs, tupG, seqR]
  refine cs_nx (r1 := E17 (.scr (ns.map D.int)) k X.h Y.h W V (.int X.n) (.int tu) (some (.str nm)) (some (.int wd)) x11 x12 x13 x14 x15 x16) (O1 := O2) ?_ ?_
  · unfold st1
    refine if_f (O1 := O2) ?_ rfl
    have hf : fnE 3 fn__law_refused (consA (varE 4) (consA (varE 9) (consA (callE (listKF false) (consA (varE 5) nilA)) nilA))) (E17 (.scr (ns.map D.int)) k X.h Y.h W V (.int X.n) (.int tu) (some (.str nm)) (some (.int wd)) x11 x12 x13 x14 x15 x16) O2 = .ok (.bl true) O2 := by
      have ea : (consA (varE 4) (consA (varE 9) (consA (callE (listKF false) (consA (varE 5) nilA)) nilA))) (E17 (.scr (ns.map D.int)) k X.h Y.h W V (.int X.n) (.int tu) (some (.str nm)) (some (.int wd)) x11 x12 x13 x14 x15 x16) O2 = .ok [.ob Y.h, .str nm, .lst (X.es.map fun e => D.int e.k)] O2 := by
        have v4 : varE 4 (E17 (.scr (ns.map D.int)) k X.h Y.h W V (.int X.n) (.int tu) (some (.str nm)) (some (.int wd)) x11 x12 x13 x14 x15 x16) O2 = .ok (.ob Y.h) O2 := rfl
        have v9 : varE 9 (E17 (.scr (ns.map D.int)) k X.h Y.h W V (.int X.n) (.int tu) (some (.str nm)) (some (.int wd)) x11 x12 x13 x14 x15 x16) O2 = .ok (.str nm) O2 := rfl
        rw [ev_consA, v4, bind_ok', ev_consA, v9, bind_ok', ev_consA, lk, bind_ok', ev_nilA]; rfl
      rw [ev_fnE, ea, bind_ok', if_pos (by rfl), rf]
    rw [ev_notT, ev_truT, hf]; rfl
  refine cs_nx (r1 := E17 (.scr (ns.map D.int)) k X'.h Y'.h W V (.int X'.n) (.int tu) (some (.str nm)) (some (.int wd)) y11 y12 y13 x14 y15 x16) (O1 := O3) (by rw [← hxh, ← hyh]; exact e3) ?_
  refine cs_nx (r1 := E17 (.scr (ns.map D.int)) k X'.h Y'.h W V (.int X'.n) (.int tu) (some (.str nm)) (some (.int wd)) y11 y12 y13 x14 y15 (some (recD tu l name words))) (O1 := O4) ?_ ?_
  · unfold st3
    generalize recD tu l name words = RD at *
    generalize D.scr (ns.map D.int) = sc at *
    simp [e4]
  refine cs_nx (r1 := E17 (.scr (ns.map D.int)) k X'.h Y'.h W V (.int X'.n) (.int tu) (some (.str nm)) (some (.int wd)) y11 y12 y13 x14 y15 (some (recD tu l name words))) (O1 := O6) ?_ ?_
  · unfold st4
    refine if_f (O1 := O6) ?_ rfl
    generalize recD tu l name words = RD at *
    generalize D.scr (ns.map D.int) = sc at *
    have m1 : notT (truT (fnE 4 fn__law_told_holds (consA (varE 3) (consA (varE 5) (consA (varE 6) (consA (varE 16) nilA)))))) (E17 sc k X'.h Y'.h W V (.int X'.n) (.int tu) (some (.str nm)) (some (.int wd)) y11 y12 y13 x14 y15 (some RD)) O4 = .ok false O5 := by simp [e5]
    have m2 : notT (truT (fnE 4 fn__law_told_holds (consA (varE 4) (consA (varE 5) (consA (varE 6) (consA (varE 16) nilA)))))) (E17 sc k X'.h Y'.h W V (.int X'.n) (.int tu) (some (.str nm)) (some (.int wd)) y11 y12 y13 x14 y15 (some RD)) O5 = .ok false O6 := by simp [e6]
    rw [ev_orT, m1, bind_ok']
    exact m2
  · unfold st5
    refine if_f (O1 := O6) ?_ rfl
    have am := any_map (X'.told tu l name words).es (fun _ => false) O6
    have hf : (X'.told tu l name words).es.any (fun _ => false) = false := by simp
    rw [hf] at am
    have am : anyF [.lst ((X'.told tu l name words).es.map fun _ => D.bl false)] O6 = .ok (.bl false) O6 := am
    rw [ev_truT, ev_callE, ev_consA]
    have any' := any
    show ((((lcKE false (varE 5) (nameG 15) yesT (op2 neD (methE 5 2 fn_Hall_rows (varE 3) (consA (varE 15) nilA)) (methE 5 2 fn_Hall_rows (varE 4) (consA (varE 15) nilA))) [15] (E17 (.scr (ns.map D.int)) k X'.h Y'.h W V (.int X'.n) (.int tu) (some (.str nm)) (some (.int wd)) y11 y12 y13 x14 y15 (some (recD tu l name words))) O6).bind _).bind _).bind truD) = _
    rw [any', bind_ok', ev_nilA, bind_ok', bind_ok', am]; rfl
end
end Lk34
set_option linter.all false
set_option maxRecDepth 100000
set_option maxHeartbeats 4000000
namespace Lk34
open Dn PySem
abbrev J4 (o : Nat) : Sto := [hC (o + 1) (o + 2) (o + 3) 0 0, .dic [(.inr [], .int 30)], .dic [], .dic []]
theorem make_hall (r : Rho) (O : Sto) : makeE 5 1 fn_Hall_init nilA r O = .ok (.ob O.length) (O ++ J4 O.length) := by
  have e : fn_Hall_init [.ob O.length] (O ++ [.ins 5 []]) = .ok .non (O ++ J4 O.length) := hinit_ok O
  simp [e]
theorem start_ok {T : Nat} {O : Sto} (hT : TownAt O T) : ST 1 0 (Hd.new O.length) (Hd.new (O.length + 4)) (O.length + 8) (O.length + 9) T (O ++ (J4 O.length ++ (J4 (O.length + 4) ++ [.dic [], .dic []]))) := by
  have h0 := ltg hT
  have a := (hinitB O).app (J4 (O.length + 4) ++ [.dic [], .dic []])
  have b := (hinitB (O ++ J4 O.length)).app [.dic [], .dic []]
  have l1 : (O ++ J4 O.length).length = O.length + 4 := by simp
  rw [l1] at b
  have e1 : O ++ J4 O.length ++ (J4 (O.length + 4) ++ [.dic [], .dic []]) = O ++ (J4 O.length ++ (J4 (O.length + 4) ++ [.dic [], .dic []])) := by simp
  have e2 : O ++ J4 O.length ++ J4 (O.length + 4) ++ [.dic [], .dic []] = O ++ (J4 O.length ++ (J4 (O.length + 4) ++ [.dic [], .dic []])) := by simp
  have a' : HB 1 (Hd.new O.length) (O ++ (J4 O.length ++ (J4 (O.length + 4) ++ [.dic [], .dic []]))) := by rw [← e1]; exact a
  have b' : HB 1 (Hd.new (O.length + 4)) (O ++ (J4 O.length ++ (J4 (O.length + 4) ++ [.dic [], .dic []]))) := by rw [← e2]; exact b
  have own : ∀ o i, i ∈ (Hd.new o).own → o ≤ i ∧ i ≤ o + 3 := fun o i hi => by
    simp [Hd.own, Hd.new] at hi; omega
  refine ⟨⟨rfl, rfl, rfl, rfl, rfl, fun e he => by simp [Hd.new] at he, fun e he => by simp [Hd.new] at he, ⟨fun e he => by simp [Hd.new] at he⟩⟩, [], ⟨a', b', get_app hT _, ?_, ?_, fun i hi z => ?_, fun i hi => ?_, fun i hi => ?_, by omega, by omega, by omega⟩, by simp, fun k => by simp [getK, Hd.new]⟩
  · rw [List.getElem?_append_right (by omega)]
    simp [Hd.new, kkB]
  · rw [List.getElem?_append_right (by omega)]
    simp
  · have := own _ i hi; have := own _ i z; omega
  · have := own _ i hi; omega
  · have := own _ i hi; omega
abbrev R17 (sc : D) (k : Option D) (x3 x4 x5 x6 x7 x8 x9 x10 x11 x12 x13 x14 x15 x16 : Option D) : Rho := [some sc, some (.ob 0), k, x3, x4, x5, x6, x7, x8, x9, x10, x11, x12, x13, x14, x15, x16]
theorem round_ok (ns : List Int) {T : Nat} {O : Sto} (hT : TownAt O T) (ht : T < 500000) (k : Option D) (x3 x4 x5 x6 x7 x8 x9 x10 x11 x12 x13 x14 x15 x16 : Option D) :
    ∃ O' T' y3 y4 y5 y6 y7 y8 y9 y10 y11 y12 y13 y15 y16, Q_law_2 (R17 (.scr (ns.map D.int)) k x3 x4 x5 x6 x7 x8 x9 x10 x11 x12 x13 x14 x15 x16) O = .nx (R17 (.scr (ns.map D.int)) k y3 y4 y5 y6 y7 y8 y9 y10 y11 y12 y13 x14 y15 y16) O' ∧ TownAt O' T' ∧ T' ≤ T + 2200 := by
  have hs : sizeLine = 16777216 := sizeLine_nat
  have S := start_ok hT
  have lp := forL_inv (t := nameG 8) (b := Q_law_1) (st := []) (fun i r O' => ∃ X Y T' y8 y9 y10 y11 y12 y13 y15 y16, ST (1 + i) i X Y (O.length + 8) (O.length + 9) T' O' ∧ X.n ≤ i ∧ T' ≤ T + 100 * i ∧ r = R17 (.scr (ns.map D.int)) k (some (.ob X.h)) (some (.ob Y.h)) (some (.ob (O.length + 8))) (some (.ob (O.length + 9))) (some (.int X.n)) y8 y9 y10 y11 y12 y13 x14 y15 y16)
    (items := rangeD 0 22) (k := 0) (r := R17 (.scr (ns.map D.int)) k (some (.ob O.length)) (some (.ob (O.length + 4))) (some (.ob (O.length + 8))) (some (.ob (O.length + 9))) (some (.int 0)) x8 x9 x10 x11 x12 x13 x14 x15 x16) (O := O ++ (J4 O.length ++ (J4 (O.length + 4) ++ [.dic [], .dic []])))
    (by
      rintro i d r O1 hi ⟨X, Y, T1, y8, y9, y10, y11, y12, y13, y15, y16, S1, hn, hT1, rfl⟩
      obtain ⟨hi22, rfl⟩ : i < 22 ∧ d = .int i := by
        have hl : i < (rangeD 0 22).length := (List.getElem?_eq_some_iff.mp hi).1
        have hl' : (rangeD 0 22).length = 22 := by simp [rangeD]
        refine ⟨by omega, ?_⟩
        have := hi
        simp only [rangeD, List.getElem?_map, Option.map_eq_some_iff] at this
        obtain ⟨a, h1, h2⟩ := this
        have ha := List.getElem?_eq_some_iff.mp h1
        obtain ⟨_, ha⟩ := ha
        simp at ha
        rw [← h2, ← ha]; simp
      obtain ⟨O2, X2, Y2, T2, z9, z10, z11, z12, z13, z15, z16, e, S2, hn2, hT2⟩ := turn_ok ns S1 (by omega) (by omega) (by omega) (by omega) k i (by omega) y9 y10 y11 y12 y13 x14 y15 y16
      exact ⟨rfl, E17 (.scr (ns.map D.int)) k X.h Y.h (O.length + 8) (O.length + 9) (.int X.n) (.int i) y9 y10 y11 y12 y13 x14 y15 y16, O1, _, O2, rfl, .inl e, X2, Y2, T2, some (.int i), z9, z10, z11, z12, z13, z15, z16, S2.up (by omega), by omega, by omega, rfl⟩)
    ⟨_, _, T, x8, x9, x10, x11, x12, x13, x15, x16, S, Nat.le_refl _, by omega, rfl⟩ (fun _ _ _ => rfl)
  obtain ⟨r2, O2, g1, X2, Y2, T2, y8, y9, y10, y11, y12, y13, y15, y16, S2, hn2, hT2, rfl⟩ := lp
  have hlen : (rangeD 0 22).length = 22 := by simp [rangeD]
  rw [hlen] at hT2
  have S2t := S2.tw
  refine ⟨O2, T2, some (.ob X2.h), some (.ob Y2.h), some (.ob (O.length + 8)), some (.ob (O.length + 9)), some (.int X2.n), y8, y9, y10, y11, y12, y13, y15, y16, ?_, S2t, by omega⟩
  unfold Q_law_2
  refine cs_nx (r1 := R17 (.scr (ns.map D.int)) k (some (.ob O.length)) (some (.ob (O.length + 4))) (some (.ob (O.length + 8))) (some (.ob (O.length + 9))) (some (.int 0)) x8 x9 x10 x11 x12 x13 x14 x15 x16) (O1 := O ++ (J4 O.length ++ (J4 (O.length + 4) ++ [.dic [], .dic []]))) ?_ ?_
  · generalize D.scr (ns.map D.int) = sc
    have m1 := make_hall (R17 sc k x3 x4 x5 x6 x7 x8 x9 x10 x11 x12 x13 x14 x15 x16) O
    have m2 := make_hall (R17 sc k x3 x4 x5 x6 x7 x8 x9 x10 x11 x12 x13 x14 x15 x16) (O ++ J4 O.length)
    have l1 : (O ++ J4 O.length).length = O.length + 4 := by simp
    rw [l1] at m2
    have m3 : dic0E (R17 sc k x3 x4 x5 x6 x7 x8 x9 x10 x11 x12 x13 x14 x15 x16) (O ++ J4 O.length ++ J4 (O.length + 4)) = .ok (.ob (O.length + 8)) (O ++ J4 O.length ++ J4 (O.length + 4) ++ [.dic []]) := by simp [dic0E]
    have m4 : dic0E (R17 sc k x3 x4 x5 x6 x7 x8 x9 x10 x11 x12 x13 x14 x15 x16) (O ++ J4 O.length ++ J4 (O.length + 4) ++ [.dic []]) = .ok (.ob (O.length + 9)) (O ++ (J4 O.length ++ (J4 (O.length + 4) ++ [.dic [], .dic []]))) := by simp [dic0E]
    rw [ev_asgS, ev_tupE, ev_consA, m1, bind_ok', ev_consA, m2, bind_ok', ev_consA, m3, bind_ok', ev_consA, m4, bind_ok', ev_consA, ev_const, bind_ok', ev_nilA, bind_ok', bind_ok', bind_ok', bind_ok', bind_ok', bind_ok']
    generalize O ++ (J4 O.length ++ (J4 (O.length + 4) ++ [.dic [], .dic []])) = O3
    simp [hs, tupG, seqR]
  · have es : callI range1F (consA (constE (.int 22)) nilA) (R17 (.scr (ns.map D.int)) k (some (.ob O.length)) (some (.ob (O.length + 4))) (some (.ob (O.length + 8))) (some (.ob (O.length + 9))) (some (.int 0)) x8 x9 x10 x11 x12 x13 x14 x15 x16) (O ++ (J4 O.length ++ (J4 (O.length + 4) ++ [.dic [], .dic []]))) = .ok ⟨rangeD 0 22, []⟩ (O ++ (J4 O.length ++ (J4 (O.length + 4) ++ [.dic [], .dic []]))) := by
      have hf : fits 22 = true := by decide
      rw [ev_callI, ev_consA, ev_const, bind_ok', ev_nilA, bind_ok', bind_ok', range1_int, hf]; rfl
    rw [ev_forS, es, bindS_ok']
    exact g1
theorem main (ns : List Int) (h : ns.length ≤ 63) : ∃ O, fn_law [.scr (ns.map D.int)] [] = .ok (.bl true) O := by
  have hs : sizeLine = 16777216 := sizeLine_nat
  have t0 : TownAt [.lst []] 0 := rfl
  obtain ⟨O1, T1, y3, y4, y5, y6, y7, y8, y9, y10, y11, y12, y13, y15, y16, e1, t1, h1⟩ := round_ok ns t0 (by omega) (some (.int 0)) none none none none none none none none none none none none none none
  obtain ⟨O2, T2, z3, z4, z5, z6, z7, z8, z9, z10, z11, z12, z13, z15, z16, e2, t2, h2⟩ := round_ok ns t1 (by omega) (some (.int 1)) y3 y4 y5 y6 y7 y8 y9 y10 y11 y12 y13 none y15 y16
  refine ⟨O2, ?_⟩
  have hB : B_law (R17 (.scr (ns.map D.int)) none none none none none none none none none none none none none none none |>.set 1 none) [] = .ret (.bl true) O2 := by
    unfold B_law
    refine cs_nx (r1 := R17 (.scr (ns.map D.int)) none none none none none none none none none none none none none none none) (O1 := [.lst []]) (by
      generalize D.scr (ns.map D.int) = sc
      simp) ?_
    refine cs_nx (r1 := R17 (.scr (ns.map D.int)) (some (.int 1)) z3 z4 z5 z6 z7 z8 z9 z10 z11 z12 z13 none z15 z16) (O1 := O2) ?_ (by
      generalize D.scr (ns.map D.int) = sc
      simp)
    have es : callI range1F (consA (constE (.int 2)) nilA) (R17 (.scr (ns.map D.int)) none none none none none none none none none none none none none none none) [.lst []] = .ok ⟨[.int 0, .int 1], []⟩ [.lst []] := by
      have hf : fits 2 = true := by decide
      rw [ev_callI, ev_consA, ev_const, bind_ok', ev_nilA, bind_ok', bind_ok', range1_int, hf]; rfl
    rw [ev_forS, es, bindS_ok']
    refine Lk10.forL_go (r1 := R17 (.scr (ns.map D.int)) (some (.int 0)) none none none none none none none none none none none none none none) (O1 := [.lst []]) rfl (.inl e1) ?_
    refine Lk10.forL_go (r1 := R17 (.scr (ns.map D.int)) (some (.int 1)) y3 y4 y5 y6 y7 y8 y9 y10 y11 y12 y13 none y15 y16) (O1 := O1) rfl (.inl e2) ?_
    simp [forL]
  have hB' : B_law [some (.scr (ns.map D.int)), none, none, none, none, none, none, none, none, none, none, none, none, none, none, none, none] [] = .ret (.bl true) O2 := hB
  exact run_ret2 hB'
end Lk34
set_option Elab.async false
set_option linter.all false
set_option maxRecDepth 100000
set_option maxHeartbeats 4000000
namespace Lk34
open PySem PySem.Spec PyProof.Rows L2 Dn
def top (i : Nat) : Stmt := PySem.Challenge.pw_loghall_k34_whole_who_takes_records.main.body.getD i (.Pass ⟨0, 0, 0, 0⟩)
abbrev s_Hall_init : Stmt := inClass (top 40) 0
abbrev s_Writer_init : Stmt := inClass (top 39) 0
abbrev s_read_field : Stmt := top 13
abbrev s_with_text : Stmt := top 14
abbrev s_read_form : Stmt := top 15
abbrev s_tokens : Stmt := top 34
abbrev s_Reader_init : Stmt := inClass (top 35) 0
abbrev s_Reader_next_word : Stmt := inClass (top 35) 1
abbrev s_Reader_fail : Stmt := inClass (top 35) 2
abbrev s_Reader_pass_word : Stmt := inClass (top 35) 3
abbrev s_is_name : Stmt := top 23
abbrev s_Reader_asked : Stmt := inClass (top 35) 7
abbrev s_Reader_any_of : Stmt := inClass (top 35) 4
abbrev s_Reader_all_of : Stmt := inClass (top 35) 5
abbrev s_Reader_one : Stmt := inClass (top 35) 6
abbrev s_read_gate : Stmt := top 36
abbrev s_Hall_add_writer : Stmt := inClass (top 40) 6
abbrev s_Hall_close : Stmt := inClass (top 40) 4
abbrev s_Hall_writer_at : Stmt := inClass (top 40) 7
abbrev s_Hall_rows : Stmt := inClass (top 40) 12
abbrev s_Hall_set_level : Stmt := inClass (top 40) 1
abbrev s_Hall_take_away : Stmt := inClass (top 40) 8
abbrev s__law_draw : Stmt := top 42
abbrev s__law_pick : Stmt := top 43
abbrev s__law_name : Stmt := top 44
abbrev s__law_gate : Stmt := top 46
abbrev s__law_record : Stmt := top 45
abbrev s__law_refused : Stmt := top 47
abbrev s_above : Stmt := top 24
abbrev s_Hall_level_of : Stmt := inClass (top 40) 3
abbrev s_Hall_is_told : Stmt := inClass (top 40) 9
abbrev s_Hall_ways : Stmt := inClass (top 40) 10
abbrev s_level_word : Stmt := top 8
abbrev s_field_text : Stmt := top 16
abbrev s_laid_part : Stmt := top 17
abbrev s_laid : Stmt := top 18
abbrev s_is_under : Stmt := top 25
abbrev s_passes : Stmt := top 27
abbrev s_Writer_take : Stmt := inClass (top 39) 1
abbrev s_Hall_tell : Stmt := inClass (top 40) 11
abbrev s__law_due : Stmt := top 48
abbrev s__law_told_holds : Stmt := top 49
abbrev s_strength : Stmt := top 28
abbrev s_shown_within : Stmt := top 29
abbrev s_shown : Stmt := top 30
abbrev s_law : Stmt := top 50
theorem sc_Hall_init : FnScope ["self"] ["self"] (defScope s_Hall_init) := ⟨rfl, rfl, rfl, by decide +kernel, rfl, by decide +kernel, by decide +kernel⟩
theorem sc_Writer_init : FnScope ["self", "name", "least", "gate", "form"] ["self", "name", "least", "gate", "form"] (defScope s_Writer_init) := ⟨rfl, rfl, rfl, by decide +kernel, rfl, by decide +kernel, by decide +kernel⟩
theorem sc_read_field : FnScope ["text", "mark", "word", "gap", "wide", "fit", "many"] ["text"] (defScope s_read_field) := ⟨rfl, rfl, rfl, by decide +kernel, rfl, by decide +kernel, by decide +kernel⟩
theorem sc_with_text : FnScope ["parts", "text"] ["parts", "text"] (defScope s_with_text) := ⟨rfl, rfl, rfl, by decide +kernel, rfl, by decide +kernel, by decide +kernel⟩
theorem sc_read_form : FnScope ["text", "parts", "at", "end", "field"] ["text"] (defScope s_read_form) := ⟨rfl, rfl, rfl, by decide +kernel, rfl, by decide +kernel, by decide +kernel⟩
theorem sc_tokens : FnScope ["text", "found", "at", "begin"] ["text"] (defScope s_tokens) := ⟨rfl, rfl, rfl, by decide +kernel, rfl, by decide +kernel, by decide +kernel⟩
theorem sc_Reader_init : FnScope ["self", "text"] ["self", "text"] (defScope s_Reader_init) := ⟨rfl, rfl, rfl, by decide +kernel, rfl, by decide +kernel, by decide +kernel⟩
theorem sc_Reader_next_word : FnScope ["self"] ["self"] (defScope s_Reader_next_word) := ⟨rfl, rfl, rfl, by decide +kernel, rfl, by decide +kernel, by decide +kernel⟩
theorem sc_Reader_fail : FnScope ["self"] ["self"] (defScope s_Reader_fail) := ⟨rfl, rfl, rfl, by decide +kernel, rfl, by decide +kernel, by decide +kernel⟩
theorem sc_Reader_pass_word : FnScope ["self", "word"] ["self"] (defScope s_Reader_pass_word) := ⟨rfl, rfl, rfl, by decide +kernel, rfl, by decide +kernel, by decide +kernel⟩
theorem sc_is_name : FnScope ["thing", "parts", "fit", "sign", "part"] ["thing"] (defScope s_is_name) := ⟨rfl, rfl, rfl, by decide +kernel, rfl, by decide +kernel, by decide +kernel⟩
theorem sc_Reader_asked : FnScope ["self", "word", "what", "figures", "sign"] ["self", "word"] (defScope s_Reader_asked) := ⟨rfl, rfl, rfl, by decide +kernel, rfl, by decide +kernel, by decide +kernel⟩
theorem sc_Reader_any_of : FnScope ["self", "gate"] ["self"] (defScope s_Reader_any_of) := ⟨rfl, rfl, rfl, by decide +kernel, rfl, by decide +kernel, by decide +kernel⟩
theorem sc_Reader_all_of : FnScope ["self", "gate"] ["self"] (defScope s_Reader_all_of) := ⟨rfl, rfl, rfl, by decide +kernel, rfl, by decide +kernel, by decide +kernel⟩
theorem sc_Reader_one : FnScope ["self", "word", "gate"] ["self"] (defScope s_Reader_one) := ⟨rfl, rfl, rfl, by decide +kernel, rfl, by decide +kernel, by decide +kernel⟩
theorem sc_read_gate : FnScope ["text", "reader", "gate"] ["text"] (defScope s_read_gate) := ⟨rfl, rfl, rfl, by decide +kernel, rfl, by decide +kernel, by decide +kernel⟩
theorem sc_Hall_add_writer : FnScope ["self", "name", "least", "gate", "form", "read"] ["self", "name", "least", "gate", "form"] (defScope s_Hall_add_writer) := ⟨rfl, rfl, rfl, by decide +kernel, rfl, by decide +kernel, by decide +kernel⟩
theorem sc_Hall_close : FnScope ["self", "name", "closed"] ["self", "name", "closed"] (defScope s_Hall_close) := ⟨rfl, rfl, rfl, by decide +kernel, rfl, by decide +kernel, by decide +kernel⟩
theorem sc_Hall_writer_at : FnScope ["self", "number"] ["self", "number"] (defScope s_Hall_writer_at) := ⟨rfl, rfl, rfl, by decide +kernel, rfl, by decide +kernel, by decide +kernel⟩
theorem sc_Hall_rows : FnScope ["self", "number"] ["self", "number"] (defScope s_Hall_rows) := ⟨rfl, rfl, rfl, by decide +kernel, rfl, by decide +kernel, by decide +kernel⟩
theorem sc_Hall_set_level : FnScope ["self", "name", "level"] ["self", "name", "level"] (defScope s_Hall_set_level) := ⟨rfl, rfl, rfl, by decide +kernel, rfl, by decide +kernel, by decide +kernel⟩
theorem sc_Hall_take_away : FnScope ["self", "number"] ["self", "number"] (defScope s_Hall_take_away) := ⟨rfl, rfl, rfl, by decide +kernel, rfl, by decide +kernel, by decide +kernel⟩
theorem sc__law_draw : FnScope ["_law_script", "_law_town", "_law_many", "_law_k", "_law_cell", "_law_number", "_law_more"] ["_law_script", "_law_town", "_law_many"] (defScope s__law_draw) := ⟨rfl, rfl, rfl, by decide +kernel, rfl, by decide +kernel, by decide +kernel⟩
theorem sc__law_pick : FnScope ["_law_script", "_law_town", "_law_some"] ["_law_script", "_law_town", "_law_some"] (defScope s__law_pick) := ⟨rfl, rfl, rfl, by decide +kernel, rfl, by decide +kernel, by decide +kernel⟩
theorem sc__law_name : FnScope ["_law_script", "_law_town", "_law_got", "_law_turn"] ["_law_script", "_law_town"] (defScope s__law_name) := ⟨rfl, rfl, rfl, by decide +kernel, rfl, by decide +kernel, by decide +kernel⟩
theorem sc__law_gate : FnScope ["_law_script", "_law_town", "_law_deep", "_law_word", "_law_one", "_law_other"] ["_law_script", "_law_town", "_law_deep"] (defScope s__law_gate) := ⟨rfl, rfl, rfl, by decide +kernel, rfl, by decide +kernel, by decide +kernel⟩
theorem sc__law_record : FnScope ["_law_script", "_law_town", "_law_moment", "_law_words"] ["_law_script", "_law_town", "_law_moment"] (defScope s__law_record) := ⟨rfl, rfl, rfl, by decide +kernel, rfl, by decide +kernel, by decide +kernel⟩
theorem sc__law_refused : FnScope ["_law_hall", "_law_name_here", "_law_numbers", "_law_got", "_law_before", "_law_number", "_law_gate_here", "_law_form", "_law_word"] ["_law_hall", "_law_name_here", "_law_numbers"] (defScope s__law_refused) := ⟨rfl, rfl, rfl, by decide +kernel, rfl, by decide +kernel, by decide +kernel⟩
theorem sc_above : FnScope ["name", "parts", "many"] ["name"] (defScope s_above) := ⟨rfl, rfl, rfl, by decide +kernel, rfl, by decide +kernel, by decide +kernel⟩
theorem sc_Hall_level_of : FnScope ["self", "name", "one"] ["self", "name"] (defScope s_Hall_level_of) := ⟨rfl, rfl, rfl, by decide +kernel, rfl, by decide +kernel, by decide +kernel⟩
theorem sc_Hall_is_told : FnScope ["self", "name", "level"] ["self", "name", "level"] (defScope s_Hall_is_told) := ⟨rfl, rfl, rfl, by decide +kernel, rfl, by decide +kernel, by decide +kernel⟩
theorem sc_Hall_ways : FnScope ["self", "name", "found", "one"] ["self", "name"] (defScope s_Hall_ways) := ⟨rfl, rfl, rfl, by decide +kernel, rfl, by decide +kernel, by decide +kernel⟩
theorem sc_level_word : FnScope ["level", "at", "more"] ["level"] (defScope s_level_word) := ⟨rfl, rfl, rfl, by decide +kernel, rfl, by decide +kernel, by decide +kernel⟩
theorem sc_field_text : FnScope ["word", "record"] ["word", "record"] (defScope s_field_text) := ⟨rfl, rfl, rfl, by decide +kernel, rfl, by decide +kernel, by decide +kernel⟩
theorem sc_laid_part : FnScope ["part", "record", "text"] ["part", "record"] (defScope s_laid_part) := ⟨rfl, rfl, rfl, by decide +kernel, rfl, by decide +kernel, by decide +kernel⟩
theorem sc_laid : FnScope ["form", "record", "part"] ["form", "record"] (defScope s_laid) := ⟨rfl, rfl, rfl, by decide +kernel, rfl, by decide +kernel, by decide +kernel⟩
theorem sc_is_under : FnScope ["name", "other"] ["name", "other"] (defScope s_is_under) := ⟨rfl, rfl, rfl, by decide +kernel, rfl, by decide +kernel, by decide +kernel⟩
theorem sc_passes : FnScope ["gate", "record", "word"] ["gate", "record"] (defScope s_passes) := ⟨rfl, rfl, rfl, by decide +kernel, rfl, by decide +kernel, by decide +kernel⟩
theorem sc_Writer_take : FnScope ["self", "record"] ["self", "record"] (defScope s_Writer_take) := ⟨rfl, rfl, rfl, by decide +kernel, rfl, by decide +kernel, by decide +kernel⟩
theorem sc_Hall_tell : FnScope ["self", "record", "found", "name", "number", "writer"] ["self", "record"] (defScope s_Hall_tell) := ⟨rfl, rfl, rfl, by decide +kernel, rfl, by decide +kernel, by decide +kernel⟩
theorem sc__law_due : FnScope ["_law_hall", "_law_writers", "_law_closed", "_law_record_here", "_law_got", "_law_name_here", "_law_number", "_law_at", "_law_least", "_law_gate_here", "_law_form"] ["_law_hall", "_law_writers", "_law_closed", "_law_record_here"] (defScope s__law_due) := ⟨rfl, rfl, rfl, by decide +kernel, rfl, by decide +kernel, by decide +kernel⟩
theorem sc__law_told_holds : FnScope ["_law_hall", "_law_writers", "_law_closed", "_law_record_here", "_law_rows", "_law_number", "_law_due_here", "_law_more"] ["_law_hall", "_law_writers", "_law_closed", "_law_record_here"] (defScope s__law_told_holds) := ⟨rfl, rfl, rfl, by decide +kernel, rfl, by decide +kernel, by decide +kernel⟩
theorem sc_strength : FnScope ["gate"] ["gate"] (defScope s_strength) := ⟨rfl, rfl, rfl, by decide +kernel, rfl, by decide +kernel, by decide +kernel⟩
theorem sc_shown_within : FnScope ["gate", "least"] ["gate", "least"] (defScope s_shown_within) := ⟨rfl, rfl, rfl, by decide +kernel, rfl, by decide +kernel, by decide +kernel⟩
theorem sc_shown : FnScope ["gate", "word", "here"] ["gate"] (defScope s_shown) := ⟨rfl, rfl, rfl, by decide +kernel, rfl, by decide +kernel, by decide +kernel⟩
theorem sc_law : FnScope ["_law_script", "_law_town", "_law_k", "_law_one", "_law_other", "_law_writers", "_law_closed", "_law_many", "_law_turn", "_law_name_here", "_law_word", "_law_gate_here", "_law_least", "_law_row", "_law_hall", "_law_number", "_law_record_here"] ["_law_script"] (defScope s_law) := ⟨rfl, rfl, rfl, by decide +kernel, rfl, by decide +kernel, by decide +kernel⟩
def fnames : List Str := ["many", "level", "kept", "span", "passed", "now", "texts", "stops", "disk", "most", "keep", "last", "name", "least", "gate", "form", "levels", "closed", "writers", "still", "left", "deep", "at"]
def fname (i : Nat) : Str := fnames.getD i "?"
theorem fname_inj (i j : Nat) (hi : i < 23) (hj : j < 23) (h : fname i = fname j) : i = j := by
  have q : ∀ i, i < 23 → ∀ j, j < 23 → fname i = fname j → i = j := by decide +kernel
  exact q i hi j hj h
def mkC (K : PySem.W.Frag) (A6 A4 A5 X3 X4 X5 : Addr) : Dn.Ctx := { K := K, fn := fname, fN := 23, finj := fname_inj, cl := fun c => match c with | 6 => some A6 | 4 => some A4 | 5 => some A5 | _ => none, ec := fun c => match c with | 3 => some X3 | 4 => some X4 | 5 => some X5 | _ => none, att := att }
structure Txt (K : PySem.W.Frag) (mg : Str → Option Value) (A6 A4 A5 X3 X4 X5 : Addr) : Prop where
  g_BadGate : mg "BadGate" = some (.ref X3)
  o_BadGate : ∃ fI, PySem.OwnX.OwnTxt "BadGate" "BadGate.__init__" K mg X3 fI
  m_BadGate : ∀ j A', (mkC K A6 A4 A5 X3 X4 X5).ec j = some A' → PySem.W.exmOne (mkC K A6 A4 A5 X3 X4 X5).K (.ref A') (.ref X3) = some (decide (j = 3))
  g_BadForm : mg "BadForm" = some (.ref X4)
  o_BadForm : ∃ fI, PySem.OwnX.OwnTxt "BadForm" "BadForm.__init__" K mg X4 fI
  m_BadForm : ∀ j A', (mkC K A6 A4 A5 X3 X4 X5).ec j = some A' → PySem.W.exmOne (mkC K A6 A4 A5 X3 X4 X5).K (.ref A') (.ref X4) = some (decide (j = 4))
  g_NoWriter : mg "NoWriter" = some (.ref X5)
  x_NoWriter : ExcF K X5
  m_NoWriter : ∀ j A', (mkC K A6 A4 A5 X3 X4 X5).ec j = some A' → PySem.W.exmOne (mkC K A6 A4 A5 X3 X4 X5).K (.ref A') (.ref X5) = some (decide (j = 5))
  n_all : mg "all" = none
  n_any : mg "any" = none
  n_dict : mg "dict" = none
  n_int : mg "int" = none
  n_isinstance : mg "isinstance" = none
  n_len : mg "len" = none
  n_list : mg "list" = none
  n_min : mg "min" = none
  n_range : mg "range" = none
  n_sorted : mg "sorted" = none
  n_str : mg "str" = none
  n_tuple : mg "tuple" = none
  k_DEEP_MOST_gatetext : Cst K mg "DEEP_MOST_gatetext" c_DEEP_MOST_gatetext
  k_DEEP_MOST_names : Cst K mg "DEEP_MOST_names" c_DEEP_MOST_names
  k_FIELDS : Cst K mg "FIELDS" c_FIELDS
  k_MARKS : Cst K mg "MARKS" c_MARKS
  k_PART_MOST : Cst K mg "PART_MOST" c_PART_MOST
  k_SIGNS_gatetext : Cst K mg "SIGNS_gatetext" c_SIGNS_gatetext
  k_SIGNS_names : Cst K mg "SIGNS_names" c_SIGNS_names
  k_TOP_LEVEL : Cst K mg "TOP_LEVEL" c_TOP_LEVEL
  k_WIDE_MOST : Cst K mg "WIDE_MOST" c_WIDE_MOST
  k_WORDS : Cst K mg "WORDS" c_WORDS
theorem nf_Hall_add_writer : ∀ i, i < 23 → fname i ≠ "add_writer" := by decide +kernel
theorem nf_Hall_close : ∀ i, i < 23 → fname i ≠ "close" := by decide +kernel
theorem nf_Hall_is_told : ∀ i, i < 23 → fname i ≠ "is_told" := by decide +kernel
theorem nf_Hall_level_of : ∀ i, i < 23 → fname i ≠ "level_of" := by decide +kernel
theorem nf_Hall_rows : ∀ i, i < 23 → fname i ≠ "rows" := by decide +kernel
theorem nf_Hall_set_level : ∀ i, i < 23 → fname i ≠ "set_level" := by decide +kernel
theorem nf_Hall_take_away : ∀ i, i < 23 → fname i ≠ "take_away" := by decide +kernel
theorem nf_Hall_tell : ∀ i, i < 23 → fname i ≠ "tell" := by decide +kernel
theorem nf_Hall_ways : ∀ i, i < 23 → fname i ≠ "ways" := by decide +kernel
theorem nf_Hall_writer_at : ∀ i, i < 23 → fname i ≠ "writer_at" := by decide +kernel
theorem nf_Reader_all_of : ∀ i, i < 23 → fname i ≠ "all_of" := by decide +kernel
theorem nf_Reader_any_of : ∀ i, i < 23 → fname i ≠ "any_of" := by decide +kernel
theorem nf_Reader_asked : ∀ i, i < 23 → fname i ≠ "asked" := by decide +kernel
theorem nf_Reader_fail : ∀ i, i < 23 → fname i ≠ "fail" := by decide +kernel
theorem nf_Reader_next_word : ∀ i, i < 23 → fname i ≠ "next_word" := by decide +kernel
theorem nf_Reader_one : ∀ i, i < 23 → fname i ≠ "one" := by decide +kernel
theorem nf_Reader_pass_word : ∀ i, i < 23 → fname i ≠ "pass_word" := by decide +kernel
theorem nf_Writer_take : ∀ i, i < 23 → fname i ≠ "take" := by decide +kernel
section
variable {P : Program} {w : World} {K : PySem.W.Frag} {mg : Str → Option Value} {base : Heap} {A6 A4 A5 X3 X4 X5 : Addr}
theorem ok_Hall_init (T : Txt K mg A6 A4 A5 X3 X4 X5) (Fa : Facts (mkC K A6 A4 A5 X3 X4 X5)) (R : RawK K mg (mkC K A6 A4 A5 X3 X4 X5) "Hall" 5 "Hall.__init__" s_Hall_init ["self"])  : GK P w K mg base (mkC K A6 A4 A5 X3 X4 X5) "Hall" 5 1 1 fn_Hall_init := by
  refine GK.mk' (k := 0) R sc_Hall_init fun f cdv A outer s H E hr => ?_
  have tk := takes_cx (P := P) (w := w) (K := K) (mg := mg) (base := base) (N := ["self"]) (qual := "Hall.__init__") (scope := defScope s_Hall_init) (f := f) (cd := cdv) (A := A) (outer := outer) (s := s) (H := H) (E := E)
  have hp := passes_cx (P := P) (w := w) (K := K) (mg := mg) (base := base) (CX := L2.CX P w) (N := ["self"]) (qual := "Hall.__init__") (scope := defScope s_Hall_init) (f := f) (cd := cdv) (A := A) (outer := outer) (s := s) (H := H) (E := E)
  exact (ss_cons (s_fld 16 rfl Fa (show 16 < 23 by decide) rfl (d_var 0) (d_dict (p_cons (d_str []) (d_cst rfl T.k_TOP_LEVEL rfl) p_nil)))
    (ss_cons (s_fld 17 rfl Fa (show 17 < 23 by decide) rfl (d_var 0) d_dict0)
    (ss_cons (s_fld 18 rfl Fa (show 18 < 23 by decide) rfl (d_var 0) d_dict0)
    (ss_cons (s_fld 0 rfl Fa (show 0 < 23 by decide) rfl (d_var 0) d_int)
    (ss_one (s_fld 19 rfl Fa (show 19 < 23 by decide) rfl (d_var 0) d_int))))))
theorem ok_Writer_init (T : Txt K mg A6 A4 A5 X3 X4 X5) (Fa : Facts (mkC K A6 A4 A5 X3 X4 X5)) (R : RawK K mg (mkC K A6 A4 A5 X3 X4 X5) "Writer" 4 "Writer.__init__" s_Writer_init ["self", "name", "least", "gate", "form"])  : GK P w K mg base (mkC K A6 A4 A5 X3 X4 X5) "Writer" 4 1 5 fn_Writer_init := by
  refine GK.mk' (k := 0) R sc_Writer_init fun f cdv A outer s H E hr => ?_
  have tk := takes_cx (P := P) (w := w) (K := K) (mg := mg) (base := base) (N := ["self", "name", "least", "gate", "form"]) (qual := "Writer.__init__") (scope := defScope s_Writer_init) (f := f) (cd := cdv) (A := A) (outer := outer) (s := s) (H := H) (E := E)
  have hp := passes_cx (P := P) (w := w) (K := K) (mg := mg) (base := base) (CX := L2.CX P w) (N := ["self", "name", "least", "gate", "form"]) (qual := "Writer.__init__") (scope := defScope s_Writer_init) (f := f) (cd := cdv) (A := A) (outer := outer) (s := s) (H := H) (E := E)
  exact (ss_cons (s_fld 12 rfl Fa (show 12 < 23 by decide) rfl (d_var 0) (d_var 1))
    (ss_cons (s_fld 13 rfl Fa (show 13 < 23 by decide) rfl (d_var 0) (d_var 2))
    (ss_cons (s_fld 14 rfl Fa (show 14 < 23 by decide) rfl (d_var 0) (d_var 3))
    (ss_cons (s_fld 15 rfl Fa (show 15 < 23 by decide) rfl (d_var 0) (d_var 4))
    (ss_one (s_fld 6 rfl Fa (show 6 < 23 by decide) rfl (d_var 0) (d_lst true a_nil)))))))
theorem ok_read_field (T : Txt K mg A6 A4 A5 X3 X4 X5) (Fa : Facts (mkC K A6 A4 A5 X3 X4 X5)) (R : RawF K mg "read_field" s_read_field ["text"])  : GF P w K mg base (mkC K A6 A4 A5 X3 X4 X5) "read_field" 1 1 fn_read_field := by
  refine GF.mk' (k := 0) R sc_read_field fun f cdv A outer s H E hr => ?_
  have tk := takes_cx (P := P) (w := w) (K := K) (mg := mg) (base := base) (N := ["text", "mark", "word", "gap", "wide", "fit", "many"]) (qual := "read_field") (scope := defScope s_read_field) (f := f) (cd := cdv) (A := A) (outer := outer) (s := s) (H := H) (E := E)
  have hp := passes_cx (P := P) (w := w) (K := K) (mg := mg) (base := base) (CX := L2.CX P w) (N := ["text", "mark", "word", "gap", "wide", "fit", "many"]) (qual := "read_field") (scope := defScope s_read_field) (f := f) (cd := cdv) (A := A) (outer := outer) (s := s) (H := H) (E := E)
  exact (ss_cons (s_for hp rfl (i_seq rfl (d_cst rfl T.k_MARKS rfl)) (g_name 1 sc_read_field.nd)
    (ss_cons (s_asg (e_partition1 rfl (d_var 0) (a_cons (d_var 1) a_nil)) (g_tup rfl rfl (gs_cons (g_name 2 sc_read_field.nd) (gs_cons (g_name 3 sc_read_field.nd) (gs_cons (g_name 4 sc_read_field.nd) gs_nil)))))
    (ss_one (s_if (DW.t (w_and (t_ne rfl hr.units (d_var 3) (d_str [])) (w_and1 (t_in rfl hr.units (d_var 2) (d_cst rfl T.k_FIELDS rfl)))))
    (ss_cons (s_setLc false [("many", 6)] 5 rfl sc_read_field.nd (i_range2 rfl T.n_range (a_cons d_int (a_cons (e_add false rfl (d_cst rfl T.k_WIDE_MOST rfl) d_int) a_nil))) (blkX (N := ["text", "mark", "word", "gap", "wide", "fit", "many"]) (sc := defScope s_read_field) (by decide +kernel)) (by decide) (fun _ _ _ _ _ => (g_name 6 sc_read_field.nd)) (fun _ _ _ _ _ => (ts_one (t_eq rfl hr.units (e_str T.n_str rfl (a_cons (d_var 6) a_nil)) (d_var 4)))) (fun _ _ _ _ _ => (d_var 6)) (sw_true rfl rfl rfl (by decide +kernel)))
    (ss_one (s_if (t_tru rfl (d_var 5))
    (ss_one (s_ret (d_tup (a_cons (d_str [102, 105, 101, 108, 100]) (a_cons (d_var 2) (a_cons (d_var 1) (a_cons (d_ix rfl (hu1 hr.units) (d_var 5) d_int) a_nil)))))))
    ss_nil)))
    ss_nil))))
    (ss_cons (s_if (t_in rfl hr.units (d_var 0) (d_cst rfl T.k_FIELDS rfl))
    (ss_one (s_ret (d_tup (a_cons (d_str [102, 105, 101, 108, 100]) (a_cons (d_var 0) (a_cons (d_str []) (a_cons d_int a_nil)))))))
    ss_nil)
    (ss_one (s_ret d_non))))
theorem ok_with_text (T : Txt K mg A6 A4 A5 X3 X4 X5) (Fa : Facts (mkC K A6 A4 A5 X3 X4 X5)) (R : RawF K mg "with_text" s_with_text ["parts", "text"])  : GF P w K mg base (mkC K A6 A4 A5 X3 X4 X5) "with_text" 1 2 fn_with_text := by
  refine GF.mk' (k := 0) R sc_with_text fun f cdv A outer s H E hr => ?_
  have tk := takes_cx (P := P) (w := w) (K := K) (mg := mg) (base := base) (N := ["parts", "text"]) (qual := "with_text") (scope := defScope s_with_text) (f := f) (cd := cdv) (A := A) (outer := outer) (s := s) (H := H) (E := E)
  have hp := passes_cx (P := P) (w := w) (K := K) (mg := mg) (base := base) (CX := L2.CX P w) (N := ["parts", "text"]) (qual := "with_text") (scope := defScope s_with_text) (f := f) (cd := cdv) (A := A) (outer := outer) (s := s) (H := H) (E := E)
  exact (ss_cons (s_if (DW.t (w_and (t_tru rfl (d_var 0)) (w_and1 (t_eq rfl hr.units (d_ix rfl (hu1 hr.units) (d_ix rfl (hu1 hr.units) (d_var 0) (e_neg d_int)) d_int) (d_str [116, 101, 120, 116])))))
    (ss_one (s_ret (e_add false rfl (d_slice false rfl (d_var 0) o_none (o_some (e_neg d_int))) (d_tup (a_cons (d_tup (a_cons (d_str [116, 101, 120, 116]) (a_cons (e_add false rfl (d_ix rfl (hu1 hr.units) (d_ix rfl (hu1 hr.units) (d_var 0) (e_neg d_int)) d_int) (d_var 1)) a_nil))) a_nil)))))
    ss_nil)
    (ss_one (s_ret (e_add false rfl (d_var 0) (d_tup (a_cons (d_tup (a_cons (d_str [116, 101, 120, 116]) (a_cons (d_var 1) a_nil))) a_nil))))))
theorem ok_read_form (T : Txt K mg A6 A4 A5 X3 X4 X5) (Fa : Facts (mkC K A6 A4 A5 X3 X4 X5)) (R : RawF K mg "read_form" s_read_form ["text"]) (G_read_field : GF P w K mg base (mkC K A6 A4 A5 X3 X4 X5) "read_field" 1 1 fn_read_field) (G_with_text : GF P w K mg base (mkC K A6 A4 A5 X3 X4 X5) "with_text" 1 2 fn_with_text) : GF P w K mg base (mkC K A6 A4 A5 X3 X4 X5) "read_form" 2 1 fn_read_form := by
  refine GF.mk' (k := 1) R sc_read_form fun f cdv A outer s H E hr => ?_
  have tk := takes_cx (P := P) (w := w) (K := K) (mg := mg) (base := base) (N := ["text", "parts", "at", "end", "field"]) (qual := "read_form") (scope := defScope s_read_form) (f := f) (cd := cdv) (A := A) (outer := outer) (s := s) (H := H) (E := E)
  have hp := passes_cx (P := P) (w := w) (K := K) (mg := mg) (base := base) (CX := L2.CX P w) (N := ["text", "parts", "at", "end", "field"]) (qual := "read_form") (scope := defScope s_read_form) (f := f) (cd := cdv) (A := A) (outer := outer) (s := s) (H := H) (E := E)
  exact (ss_cons (s_set 1 sc_read_form.nd (d_tup a_nil))
    (ss_cons (s_set 2 sc_read_form.nd d_int)
    (ss_cons (s_while 100000 hp (t_lt (d_var 2) (e_len rfl T.n_len rfl (a_cons (d_var 0) a_nil)))
    (ss_one (s_if (t_in rfl hr.units (d_slice false rfl (d_var 0) (o_some (d_var 2)) (o_some (e_add false rfl (d_var 2) d_int))) (d_tup (a_cons (d_str [123, 123]) (a_cons (d_str [125, 125]) a_nil))))
    (ss_cons (s_set 1 sc_read_form.nd (d_call (G_with_text.close) (hr.mono (by omega)) tk rfl (a_cons (d_var 1) (a_cons (d_ix rfl (hu1 hr.units) (d_var 0) (d_var 2)) a_nil))))
    (ss_one (s_set 2 sc_read_form.nd (e_add false rfl (d_var 2) d_int))))
    (ss_one (s_if (t_eq rfl hr.units (d_ix rfl (hu1 hr.units) (d_var 0) (d_var 2)) (d_str [123]))
    (ss_cons (s_set 3 sc_read_form.nd (e_find2 rfl (d_var 0) (a_cons (d_str [125]) (a_cons (d_var 2) a_nil))))
    (ss_cons (s_set 4 sc_read_form.nd d_non)
    (ss_cons (s_if (t_gt (d_var 3) d_int)
    (ss_one (s_set 4 sc_read_form.nd (d_call (G_read_field.close) (hr.mono (by omega)) tk rfl (a_cons (d_slice false rfl (d_var 0) (o_some (e_add false rfl (d_var 2) d_int)) (o_some (d_var 3))) a_nil))))
    ss_nil)
    (ss_cons (s_if (t_isN (d_var 4) d_non)
    (ss_one (let ⟨_, o⟩ := T.o_BadForm; s_raise1 4 22 rfl tk rfl rfl rfl (Nat.le_refl 23) o hr (a_cons (d_var 2) a_nil)))
    ss_nil)
    (ss_cons (s_set 1 sc_read_form.nd (e_add false rfl (d_var 1) (d_tup (a_cons (d_var 4) a_nil))))
    (ss_one (s_set 2 sc_read_form.nd (e_add false rfl (d_var 3) d_int))))))))
    (ss_cons (s_if (t_eq rfl hr.units (d_ix rfl (hu1 hr.units) (d_var 0) (d_var 2)) (d_str [125]))
    (ss_one (let ⟨_, o⟩ := T.o_BadForm; s_raise1 4 22 rfl tk rfl rfl rfl (Nat.le_refl 23) o hr (a_cons (d_var 2) a_nil)))
    ss_nil)
    (ss_cons (s_set 1 sc_read_form.nd (d_call (G_with_text.close) (hr.mono (by omega)) tk rfl (a_cons (d_var 1) (a_cons (d_ix rfl (hu1 hr.units) (d_var 0) (d_var 2)) a_nil))))
    (ss_one (s_set 2 sc_read_form.nd (e_add false rfl (d_var 2) d_int))))))))))
    (ss_one (s_ret (d_var 1))))))
theorem ok_tokens (T : Txt K mg A6 A4 A5 X3 X4 X5) (Fa : Facts (mkC K A6 A4 A5 X3 X4 X5)) (R : RawF K mg "tokens" s_tokens ["text"])  : GF P w K mg base (mkC K A6 A4 A5 X3 X4 X5) "tokens" 1 1 fn_tokens := by
  refine GF.mk' (k := 0) R sc_tokens fun f cdv A outer s H E hr => ?_
  have tk := takes_cx (P := P) (w := w) (K := K) (mg := mg) (base := base) (N := ["text", "found", "at", "begin"]) (qual := "tokens") (scope := defScope s_tokens) (f := f) (cd := cdv) (A := A) (outer := outer) (s := s) (H := H) (E := E)
  have hp := passes_cx (P := P) (w := w) (K := K) (mg := mg) (base := base) (CX := L2.CX P w) (N := ["text", "found", "at", "begin"]) (qual := "tokens") (scope := defScope s_tokens) (f := f) (cd := cdv) (A := A) (outer := outer) (s := s) (H := H) (E := E)
  exact (ss_cons (s_set 1 sc_tokens.nd (d_lst true a_nil))
    (ss_cons (s_set 2 sc_tokens.nd d_int)
    (ss_cons (s_while 100000 hp (t_lt (d_var 2) (e_len rfl T.n_len rfl (a_cons (d_var 0) a_nil)))
    (ss_cons (s_set 3 sc_tokens.nd (d_var 2))
    (ss_cons (s_set 2 sc_tokens.nd (e_add false rfl (d_var 2) d_int))
    (ss_cons (s_if (t_eq rfl hr.units (d_ix rfl (hu1 hr.units) (d_var 0) (d_var 3)) (d_str [39]))
    (ss_cons (s_set 2 sc_tokens.nd (e_add false rfl (e_find2 rfl (d_var 0) (a_cons (d_str [39]) (a_cons (d_var 2) a_nil))) d_int))
    (ss_one (s_if (t_eq rfl hr.units (d_var 2) d_int)
    (ss_one (let ⟨_, o⟩ := T.o_BadGate; s_raise1 3 22 rfl tk rfl rfl rfl (Nat.le_refl 23) o hr (a_cons (d_var 3) a_nil)))
    ss_nil)))
    (ss_one (s_if (t_in rfl hr.units (d_ix rfl (hu1 hr.units) (d_var 0) (d_var 3)) (d_cst rfl T.k_SIGNS_gatetext rfl))
    (ss_one (s_while 100000 hp (DW.t (w_and (t_lt (d_var 2) (e_len rfl T.n_len rfl (a_cons (d_var 0) a_nil))) (w_and1 (t_in rfl hr.units (d_ix rfl (hu1 hr.units) (d_var 0) (d_var 2)) (d_cst rfl T.k_SIGNS_gatetext rfl)))))
    (ss_one (s_set 2 sc_tokens.nd (e_add false rfl (d_var 2) d_int)))))
    (ss_one (s_if (t_notin rfl hr.units (d_ix rfl (hu1 hr.units) (d_var 0) (d_var 3)) (d_str [40, 41, 32]))
    (ss_one (let ⟨_, o⟩ := T.o_BadGate; s_raise1 3 22 rfl tk rfl rfl rfl (Nat.le_refl 23) o hr (a_cons (d_var 3) a_nil)))
    ss_nil)))))
    (ss_one (s_if (t_ne rfl hr.units (d_ix rfl (hu1 hr.units) (d_var 0) (d_var 3)) (d_str [32]))
    (ss_one (s_expr (e_append rfl (d_var 1) (a_cons (d_tup (a_cons (d_slice false rfl (d_var 0) (o_some (d_var 3)) (o_some (d_var 2))) (a_cons (d_var 3) a_nil))) a_nil))))
    ss_nil))))))
    (ss_one (s_ret (e_add false rfl (d_var 1) (d_lst false (a_cons (d_tup (a_cons (d_str []) (a_cons (e_len rfl T.n_len rfl (a_cons (d_var 0) a_nil)) a_nil))) a_nil))))))))
theorem ok_Reader_init (T : Txt K mg A6 A4 A5 X3 X4 X5) (Fa : Facts (mkC K A6 A4 A5 X3 X4 X5)) (R : RawK K mg (mkC K A6 A4 A5 X3 X4 X5) "Reader" 6 "Reader.__init__" s_Reader_init ["self", "text"]) (G_tokens : GF P w K mg base (mkC K A6 A4 A5 X3 X4 X5) "tokens" 1 1 fn_tokens) : GK P w K mg base (mkC K A6 A4 A5 X3 X4 X5) "Reader" 6 2 2 fn_Reader_init := by
  refine GK.mk' (k := 1) R sc_Reader_init fun f cdv A outer s H E hr => ?_
  have tk := takes_cx (P := P) (w := w) (K := K) (mg := mg) (base := base) (N := ["self", "text"]) (qual := "Reader.__init__") (scope := defScope s_Reader_init) (f := f) (cd := cdv) (A := A) (outer := outer) (s := s) (H := H) (E := E)
  have hp := passes_cx (P := P) (w := w) (K := K) (mg := mg) (base := base) (CX := L2.CX P w) (N := ["self", "text"]) (qual := "Reader.__init__") (scope := defScope s_Reader_init) (f := f) (cd := cdv) (A := A) (outer := outer) (s := s) (H := H) (E := E)
  exact (ss_cons (s_fld 20 rfl Fa (show 20 < 23 by decide) rfl (d_var 0) (d_call (G_tokens.close) (hr.mono (by omega)) tk rfl (a_cons (d_var 1) a_nil)))
    (ss_one (s_fld 21 rfl Fa (show 21 < 23 by decide) rfl (d_var 0) d_int)))
theorem ok_Reader_next_word (T : Txt K mg A6 A4 A5 X3 X4 X5) (Fa : Facts (mkC K A6 A4 A5 X3 X4 X5)) (R : RawM K (mkC K A6 A4 A5 X3 X4 X5) 6 "next_word" "Reader.next_word" s_Reader_next_word ["self"])  : GM P w K mg base (mkC K A6 A4 A5 X3 X4 X5) 6 "next_word" 1 1 fn_Reader_next_word := by
  refine GM.mk' (k := 0) R sc_Reader_next_word fun f cdv A outer s H E hr => ?_
  have tk := takes_cx (P := P) (w := w) (K := K) (mg := mg) (base := base) (N := ["self"]) (qual := "Reader.next_word") (scope := defScope s_Reader_next_word) (f := f) (cd := cdv) (A := A) (outer := outer) (s := s) (H := H) (E := E)
  have hp := passes_cx (P := P) (w := w) (K := K) (mg := mg) (base := base) (CX := L2.CX P w) (N := ["self"]) (qual := "Reader.next_word") (scope := defScope s_Reader_next_word) (f := f) (cd := cdv) (A := A) (outer := outer) (s := s) (H := H) (E := E)
  exact (ss_one (s_ret (d_ix rfl (hu1 hr.units) (d_ix rfl (hu1 hr.units) (d_fld 20 rfl Fa (show 20 < 23 by decide) rfl (d_var 0)) d_int) d_int)))
theorem ok_Reader_fail (T : Txt K mg A6 A4 A5 X3 X4 X5) (Fa : Facts (mkC K A6 A4 A5 X3 X4 X5)) (R : RawM K (mkC K A6 A4 A5 X3 X4 X5) 6 "fail" "Reader.fail" s_Reader_fail ["self"])  : GM P w K mg base (mkC K A6 A4 A5 X3 X4 X5) 6 "fail" 1 1 fn_Reader_fail := by
  refine GM.mk' (k := 0) R sc_Reader_fail fun f cdv A outer s H E hr => ?_
  have tk := takes_cx (P := P) (w := w) (K := K) (mg := mg) (base := base) (N := ["self"]) (qual := "Reader.fail") (scope := defScope s_Reader_fail) (f := f) (cd := cdv) (A := A) (outer := outer) (s := s) (H := H) (E := E)
  have hp := passes_cx (P := P) (w := w) (K := K) (mg := mg) (base := base) (CX := L2.CX P w) (N := ["self"]) (qual := "Reader.fail") (scope := defScope s_Reader_fail) (f := f) (cd := cdv) (A := A) (outer := outer) (s := s) (H := H) (E := E)
  exact (ss_one (let ⟨_, o⟩ := T.o_BadGate; s_raise1 3 22 rfl tk rfl rfl rfl (Nat.le_refl 23) o hr (a_cons (d_ix rfl (hu1 hr.units) (d_ix rfl (hu1 hr.units) (d_fld 20 rfl Fa (show 20 < 23 by decide) rfl (d_var 0)) d_int) d_int) a_nil)))
theorem ok_Reader_pass_word (T : Txt K mg A6 A4 A5 X3 X4 X5) (Fa : Facts (mkC K A6 A4 A5 X3 X4 X5)) (R : RawM K (mkC K A6 A4 A5 X3 X4 X5) 6 "pass_word" "Reader.pass_word" s_Reader_pass_word ["self"])  : GM P w K mg base (mkC K A6 A4 A5 X3 X4 X5) 6 "pass_word" 1 1 fn_Reader_pass_word := by
  refine GM.mk' (k := 0) R sc_Reader_pass_word fun f cdv A outer s H E hr => ?_
  have tk := takes_cx (P := P) (w := w) (K := K) (mg := mg) (base := base) (N := ["self", "word"]) (qual := "Reader.pass_word") (scope := defScope s_Reader_pass_word) (f := f) (cd := cdv) (A := A) (outer := outer) (s := s) (H := H) (E := E)
  have hp := passes_cx (P := P) (w := w) (K := K) (mg := mg) (base := base) (CX := L2.CX P w) (N := ["self", "word"]) (qual := "Reader.pass_word") (scope := defScope s_Reader_pass_word) (f := f) (cd := cdv) (A := A) (outer := outer) (s := s) (H := H) (E := E)
  exact (ss_cons (s_set 1 sc_Reader_pass_word.nd (d_ix rfl (hu1 hr.units) (d_ix rfl (hu1 hr.units) (d_fld 20 rfl Fa (show 20 < 23 by decide) rfl (d_var 0)) d_int) d_int))
    (ss_cons (s_fld 20 rfl Fa (show 20 < 23 by decide) rfl (d_var 0) (d_slice false rfl (d_fld 20 rfl Fa (show 20 < 23 by decide) rfl (d_var 0)) (o_some d_int) o_none))
    (ss_one (s_ret (d_var 1)))))
theorem ok_is_name (T : Txt K mg A6 A4 A5 X3 X4 X5) (Fa : Facts (mkC K A6 A4 A5 X3 X4 X5)) (R : RawF K mg "is_name" s_is_name ["thing"])  : GF P w K mg base (mkC K A6 A4 A5 X3 X4 X5) "is_name" 1 1 fn_is_name := by
  refine GF.mk' (k := 0) R sc_is_name fun f cdv A outer s H E hr => ?_
  have tk := takes_cx (P := P) (w := w) (K := K) (mg := mg) (base := base) (N := ["thing", "parts", "fit", "sign", "part"]) (qual := "is_name") (scope := defScope s_is_name) (f := f) (cd := cdv) (A := A) (outer := outer) (s := s) (H := H) (E := E)
  have hp := passes_cx (P := P) (w := w) (K := K) (mg := mg) (base := base) (CX := L2.CX P w) (N := ["thing", "parts", "fit", "sign", "part"]) (qual := "is_name") (scope := defScope s_is_name) (f := f) (cd := cdv) (A := A) (outer := outer) (s := s) (H := H) (E := E)
  exact (ss_cons (s_if (t_not (t_tru rfl (d_isi 3 rfl (by decide) rfl T.n_isinstance (d_var 0) rfl T.n_str (by decide +kernel))))
    (ss_one (s_ret d_bl))
    ss_nil)
    (ss_cons (s_if (t_eq rfl hr.units (d_var 0) (d_str []))
    (ss_one (s_ret d_bl))
    ss_nil)
    (ss_cons (s_set 1 sc_is_name.nd (e_split false rfl (d_var 0) (a_cons (d_str [46]) a_nil)))
    (ss_cons (s_setLc false [("part", 4)] 2 rfl sc_is_name.nd (i_seq rfl (d_var 1)) (blkX (N := ["thing", "parts", "fit", "sign", "part"]) (sc := defScope s_is_name) (by decide +kernel)) (by decide) (fun _ _ _ _ _ => (g_name 4 sc_is_name.nd)) (fun _ _ _ _ _ => ts_nil) (fun _ _ _ _ _ => (d_and rfl (e_lele d_int (e_len rfl T.n_len rfl (a_cons (d_var 4) a_nil)) (d_cst rfl T.k_PART_MOST rfl)) (d_one (e_all rfl rfl T.n_all rfl (a_cons (d_lc false [("sign", 3)] rfl sc_is_name.nd (i_seq rfl (d_var 4)) (by kernel_rfl) (by decide) (fun _ _ _ _ _ => (g_name 3 sc_is_name.nd)) (fun _ _ _ _ _ => ts_nil) (fun _ _ _ _ _ => (e_in rfl hr.units (d_var 3) (d_cst rfl T.k_SIGNS_names rfl)))) a_nil))))) (sw_true rfl rfl rfl (by decide +kernel)))
    (ss_one (s_ret (d_and rfl (e_le (e_len rfl T.n_len rfl (a_cons (d_var 1) a_nil)) (d_cst rfl T.k_DEEP_MOST_names rfl)) (d_one (e_all rfl rfl T.n_all rfl (a_cons (d_var 2) a_nil))))))))))
theorem ok_Reader_asked (T : Txt K mg A6 A4 A5 X3 X4 X5) (Fa : Facts (mkC K A6 A4 A5 X3 X4 X5)) (R : RawM K (mkC K A6 A4 A5 X3 X4 X5) 6 "asked" "Reader.asked" s_Reader_asked ["self", "word"]) (G_Reader_fail : GM P w K mg base (mkC K A6 A4 A5 X3 X4 X5) 6 "fail" 1 1 fn_Reader_fail) (G_Reader_next_word : GM P w K mg base (mkC K A6 A4 A5 X3 X4 X5) 6 "next_word" 1 1 fn_Reader_next_word) (G_Reader_pass_word : GM P w K mg base (mkC K A6 A4 A5 X3 X4 X5) 6 "pass_word" 1 1 fn_Reader_pass_word) (G_is_name : GF P w K mg base (mkC K A6 A4 A5 X3 X4 X5) "is_name" 1 1 fn_is_name) : GM P w K mg base (mkC K A6 A4 A5 X3 X4 X5) 6 "asked" 2 2 fn_Reader_asked := by
  refine GM.mk' (k := 1) R sc_Reader_asked fun f cdv A outer s H E hr => ?_
  have tk := takes_cx (P := P) (w := w) (K := K) (mg := mg) (base := base) (N := ["self", "word", "what", "figures", "sign"]) (qual := "Reader.asked") (scope := defScope s_Reader_asked) (f := f) (cd := cdv) (A := A) (outer := outer) (s := s) (H := H) (E := E)
  have hp := passes_cx (P := P) (w := w) (K := K) (mg := mg) (base := base) (CX := L2.CX P w) (N := ["self", "word", "what", "figures", "sign"]) (qual := "Reader.asked") (scope := defScope s_Reader_asked) (f := f) (cd := cdv) (A := A) (outer := outer) (s := s) (H := H) (E := E)
  exact (ss_cons (s_set 2 sc_Reader_asked.nd (d_meth0 6 rfl Fa G_Reader_next_word (hr.mono (by omega)) tk nf_Reader_next_word (d_var 0)))
    (ss_cons (s_if (t_eq rfl hr.units (d_var 1) (d_str [108, 101, 118, 101, 108]))
    (ss_cons (s_setLc false [("sign", 4)] 3 rfl sc_Reader_asked.nd (i_seq rfl (d_var 2)) (blkX (N := ["self", "word", "what", "figures", "sign"]) (sc := defScope s_Reader_asked) (by decide +kernel)) (by decide) (fun _ _ _ _ _ => (g_name 4 sc_Reader_asked.nd)) (fun _ _ _ _ _ => (ts_one (t_in rfl hr.units (d_var 4) (d_str [48, 49, 50, 51, 52, 53, 54, 55, 56, 57])))) (fun _ _ _ _ _ => (d_var 4)) (sw_true rfl rfl rfl (by decide +kernel)))
    (ss_cons (s_if (DW.t (w_or (t_not (t_lele d_int (e_len rfl T.n_len rfl (a_cons (d_var 2) a_nil)) d_int)) (w_or (t_lt (e_len rfl T.n_len rfl (a_cons (d_var 3) a_nil)) (e_len rfl T.n_len rfl (a_cons (d_var 2) a_nil))) (w_or1 (DW.t (w_and (t_eq rfl hr.units (d_ix rfl (hu1 hr.units) (d_var 2) d_int) (d_str [48])) (w_and1 (t_gt (e_len rfl T.n_len rfl (a_cons (d_var 2) a_nil)) d_int))))))))
    (ss_one (s_expr (d_meth0 6 rfl Fa G_Reader_fail (hr.mono (by omega)) tk nf_Reader_fail (d_var 0))))
    ss_nil)
    (ss_one (s_ret (e_int T.n_int rfl (a_cons (d_meth0 6 rfl Fa G_Reader_pass_word (hr.mono (by omega)) tk nf_Reader_pass_word (d_var 0)) a_nil))))))
    ss_nil)
    (ss_cons (s_if (t_eq rfl hr.units (d_var 1) (d_str [104, 97, 115]))
    (ss_cons (s_if (t_ne rfl hr.units (d_slice false rfl (d_var 2) o_none (o_some d_int)) (d_str [39]))
    (ss_one (s_expr (d_meth0 6 rfl Fa G_Reader_fail (hr.mono (by omega)) tk nf_Reader_fail (d_var 0))))
    ss_nil)
    (ss_one (s_ret (d_slice false rfl (d_meth0 6 rfl Fa G_Reader_pass_word (hr.mono (by omega)) tk nf_Reader_pass_word (d_var 0)) (o_some d_int) (o_some (e_neg d_int))))))
    ss_nil)
    (ss_cons (s_if (t_eq rfl hr.units (d_var 2) (d_str [42]))
    (ss_cons (s_expr (d_meth0 6 rfl Fa G_Reader_pass_word (hr.mono (by omega)) tk nf_Reader_pass_word (d_var 0)))
    (ss_one (s_ret (d_str []))))
    ss_nil)
    (ss_cons (s_if (DW.t (w_or (t_eq rfl hr.units (d_var 2) (d_str [])) (w_or1 (t_not (t_tru rfl (d_call (G_is_name.close) (hr.mono (by omega)) tk rfl (a_cons (d_var 2) a_nil)))))))
    (ss_one (s_expr (d_meth0 6 rfl Fa G_Reader_fail (hr.mono (by omega)) tk nf_Reader_fail (d_var 0))))
    ss_nil)
    (ss_one (s_ret (d_meth0 6 rfl Fa G_Reader_pass_word (hr.mono (by omega)) tk nf_Reader_pass_word (d_var 0)))))))))
theorem ok_Reader_any_of (T : Txt K mg A6 A4 A5 X3 X4 X5) (Fa : Facts (mkC K A6 A4 A5 X3 X4 X5)) (R : RawM K (mkC K A6 A4 A5 X3 X4 X5) 6 "any_of" "Reader.any_of" s_Reader_any_of ["self"]) (n : Nat) (G_Reader_next_word : GM P w K mg base (mkC K A6 A4 A5 X3 X4 X5) 6 "next_word" 1 1 fn_Reader_next_word) (G_Reader_pass_word : GM P w K mg base (mkC K A6 A4 A5 X3 X4 X5) 6 "pass_word" 1 1 fn_Reader_pass_word) (R_Reader_all_of : GM P w K mg base (mkC K A6 A4 A5 X3 X4 X5) 6 "all_of" (2 + n) 1 (fn_Reader_all_of n)) : GM P w K mg base (mkC K A6 A4 A5 X3 X4 X5) 6 "any_of" (2 + n + 1) 1 (fn_Reader_any_of (n + 1)) := by
  show GM P w K mg base (mkC K A6 A4 A5 X3 X4 X5) 6 "any_of" (2 + n + 1) 1 (runFn ["self", "gate"].length (B_Reader_any_of (fn_Reader_any_of n) (fn_Reader_all_of n) (fn_Reader_one n)))
  refine GM.mk' (k := 2 + n) R sc_Reader_any_of fun f cdv A outer s H E hr => ?_
  have tk := takes_cx (P := P) (w := w) (K := K) (mg := mg) (base := base) (N := ["self", "gate"]) (qual := "Reader.any_of") (scope := defScope s_Reader_any_of) (f := f) (cd := cdv) (A := A) (outer := outer) (s := s) (H := H) (E := E)
  have hp := passes_cx (P := P) (w := w) (K := K) (mg := mg) (base := base) (CX := L2.CX P w) (N := ["self", "gate"]) (qual := "Reader.any_of") (scope := defScope s_Reader_any_of) (f := f) (cd := cdv) (A := A) (outer := outer) (s := s) (H := H) (E := E)
  exact (ss_cons (s_set 1 sc_Reader_any_of.nd (d_meth0 6 rfl Fa R_Reader_all_of hr tk nf_Reader_all_of (d_var 0)))
    (ss_cons (s_while 100000 hp (t_eq rfl hr.units (d_meth0 6 rfl Fa G_Reader_next_word (hr.mono (by omega)) tk nf_Reader_next_word (d_var 0)) (d_str [111, 114]))
    (ss_cons (s_expr (d_meth0 6 rfl Fa G_Reader_pass_word (hr.mono (by omega)) tk nf_Reader_pass_word (d_var 0)))
    (ss_one (s_set 1 sc_Reader_any_of.nd (d_tup (a_cons (d_str [111, 114]) (a_cons (d_var 1) (a_cons (d_meth0 6 rfl Fa R_Reader_all_of hr tk nf_Reader_all_of (d_var 0)) a_nil))))))))
    (ss_one (s_ret (d_var 1)))))
theorem ok_Reader_all_of (T : Txt K mg A6 A4 A5 X3 X4 X5) (Fa : Facts (mkC K A6 A4 A5 X3 X4 X5)) (R : RawM K (mkC K A6 A4 A5 X3 X4 X5) 6 "all_of" "Reader.all_of" s_Reader_all_of ["self"]) (n : Nat) (G_Reader_next_word : GM P w K mg base (mkC K A6 A4 A5 X3 X4 X5) 6 "next_word" 1 1 fn_Reader_next_word) (G_Reader_pass_word : GM P w K mg base (mkC K A6 A4 A5 X3 X4 X5) 6 "pass_word" 1 1 fn_Reader_pass_word) (R_Reader_one : GM P w K mg base (mkC K A6 A4 A5 X3 X4 X5) 6 "one" (2 + n) 1 (fn_Reader_one n)) : GM P w K mg base (mkC K A6 A4 A5 X3 X4 X5) 6 "all_of" (2 + n + 1) 1 (fn_Reader_all_of (n + 1)) := by
  show GM P w K mg base (mkC K A6 A4 A5 X3 X4 X5) 6 "all_of" (2 + n + 1) 1 (runFn ["self", "gate"].length (B_Reader_all_of (fn_Reader_any_of n) (fn_Reader_all_of n) (fn_Reader_one n)))
  refine GM.mk' (k := 2 + n) R sc_Reader_all_of fun f cdv A outer s H E hr => ?_
  have tk := takes_cx (P := P) (w := w) (K := K) (mg := mg) (base := base) (N := ["self", "gate"]) (qual := "Reader.all_of") (scope := defScope s_Reader_all_of) (f := f) (cd := cdv) (A := A) (outer := outer) (s := s) (H := H) (E := E)
  have hp := passes_cx (P := P) (w := w) (K := K) (mg := mg) (base := base) (CX := L2.CX P w) (N := ["self", "gate"]) (qual := "Reader.all_of") (scope := defScope s_Reader_all_of) (f := f) (cd := cdv) (A := A) (outer := outer) (s := s) (H := H) (E := E)
  exact (ss_cons (s_set 1 sc_Reader_all_of.nd (d_meth0 6 rfl Fa R_Reader_one hr tk nf_Reader_one (d_var 0)))
    (ss_cons (s_while 100000 hp (t_eq rfl hr.units (d_meth0 6 rfl Fa G_Reader_next_word (hr.mono (by omega)) tk nf_Reader_next_word (d_var 0)) (d_str [97, 110, 100]))
    (ss_cons (s_expr (d_meth0 6 rfl Fa G_Reader_pass_word (hr.mono (by omega)) tk nf_Reader_pass_word (d_var 0)))
    (ss_one (s_set 1 sc_Reader_all_of.nd (d_tup (a_cons (d_str [97, 110, 100]) (a_cons (d_var 1) (a_cons (d_meth0 6 rfl Fa R_Reader_one hr tk nf_Reader_one (d_var 0)) a_nil))))))))
    (ss_one (s_ret (d_var 1)))))
theorem ok_Reader_one (T : Txt K mg A6 A4 A5 X3 X4 X5) (Fa : Facts (mkC K A6 A4 A5 X3 X4 X5)) (R : RawM K (mkC K A6 A4 A5 X3 X4 X5) 6 "one" "Reader.one" s_Reader_one ["self"]) (n : Nat) (G_Reader_asked : GM P w K mg base (mkC K A6 A4 A5 X3 X4 X5) 6 "asked" 2 2 fn_Reader_asked) (G_Reader_fail : GM P w K mg base (mkC K A6 A4 A5 X3 X4 X5) 6 "fail" 1 1 fn_Reader_fail) (G_Reader_next_word : GM P w K mg base (mkC K A6 A4 A5 X3 X4 X5) 6 "next_word" 1 1 fn_Reader_next_word) (G_Reader_pass_word : GM P w K mg base (mkC K A6 A4 A5 X3 X4 X5) 6 "pass_word" 1 1 fn_Reader_pass_word) (R_Reader_any_of : GM P w K mg base (mkC K A6 A4 A5 X3 X4 X5) 6 "any_of" (2 + n) 1 (fn_Reader_any_of n)) (R_Reader_one : GM P w K mg base (mkC K A6 A4 A5 X3 X4 X5) 6 "one" (2 + n) 1 (fn_Reader_one n)) : GM P w K mg base (mkC K A6 A4 A5 X3 X4 X5) 6 "one" (2 + n + 1) 1 (fn_Reader_one (n + 1)) := by
  show GM P w K mg base (mkC K A6 A4 A5 X3 X4 X5) 6 "one" (2 + n + 1) 1 (runFn ["self", "word", "gate"].length (B_Reader_one (fn_Reader_any_of n) (fn_Reader_all_of n) (fn_Reader_one n)))
  refine GM.mk' (k := 2 + n) R sc_Reader_one fun f cdv A outer s H E hr => ?_
  have tk := takes_cx (P := P) (w := w) (K := K) (mg := mg) (base := base) (N := ["self", "word", "gate"]) (qual := "Reader.one") (scope := defScope s_Reader_one) (f := f) (cd := cdv) (A := A) (outer := outer) (s := s) (H := H) (E := E)
  have hp := passes_cx (P := P) (w := w) (K := K) (mg := mg) (base := base) (CX := L2.CX P w) (N := ["self", "word", "gate"]) (qual := "Reader.one") (scope := defScope s_Reader_one) (f := f) (cd := cdv) (A := A) (outer := outer) (s := s) (H := H) (E := E)
  exact (ss_cons (s_set 1 sc_Reader_one.nd (d_meth0 6 rfl Fa G_Reader_next_word (hr.mono (by omega)) tk nf_Reader_next_word (d_var 0)))
    (ss_cons (s_if (t_in rfl hr.units (d_var 1) (d_tup (a_cons (d_str [121, 101, 115]) (a_cons (d_str [110, 111]) a_nil))))
    (ss_one (s_ret (d_tup (a_cons (d_meth0 6 rfl Fa G_Reader_pass_word (hr.mono (by omega)) tk nf_Reader_pass_word (d_var 0)) a_nil))))
    ss_nil)
    (ss_cons (s_if (t_in rfl hr.units (d_var 1) (d_tup (a_cons (d_str [108, 101, 118, 101, 108]) (a_cons (d_str [117, 110, 100, 101, 114]) (a_cons (d_str [104, 97, 115]) a_nil)))))
    (ss_cons (s_expr (d_meth0 6 rfl Fa G_Reader_pass_word (hr.mono (by omega)) tk nf_Reader_pass_word (d_var 0)))
    (ss_one (s_ret (d_tup (a_cons (d_var 1) (a_cons (d_meth 6 rfl Fa G_Reader_asked (hr.mono (by omega)) tk nf_Reader_asked (d_var 0) (a_cons (d_var 1) a_nil)) a_nil))))))
    ss_nil)
    (ss_cons (s_if (t_notin rfl hr.units (d_var 1) (d_tup (a_cons (d_str [110, 111, 116]) (a_cons (d_str [40]) a_nil))))
    (ss_one (s_expr (d_meth0 6 rfl Fa G_Reader_fail (hr.mono (by omega)) tk nf_Reader_fail (d_var 0))))
    ss_nil)
    (ss_cons (s_fld 21 rfl Fa (show 21 < 23 by decide) rfl (d_var 0) (e_add false rfl (d_fld 21 rfl Fa (show 21 < 23 by decide) rfl (d_var 0)) d_int))
    (ss_cons (s_if (t_gt (d_fld 21 rfl Fa (show 21 < 23 by decide) rfl (d_var 0)) (d_cst rfl T.k_DEEP_MOST_gatetext rfl))
    (ss_one (s_expr (d_meth0 6 rfl Fa G_Reader_fail (hr.mono (by omega)) tk nf_Reader_fail (d_var 0))))
    ss_nil)
    (ss_cons (s_expr (d_meth0 6 rfl Fa G_Reader_pass_word (hr.mono (by omega)) tk nf_Reader_pass_word (d_var 0)))
    (ss_cons (s_if (t_eq rfl hr.units (d_var 1) (d_str [110, 111, 116]))
    (ss_one (s_set 2 sc_Reader_one.nd (d_tup (a_cons (d_str [110, 111, 116]) (a_cons (d_meth0 6 rfl Fa R_Reader_one hr tk nf_Reader_one (d_var 0)) a_nil)))))
    (ss_cons (s_set 2 sc_Reader_one.nd (d_meth0 6 rfl Fa R_Reader_any_of hr tk nf_Reader_any_of (d_var 0)))
    (ss_cons (s_if (t_ne rfl hr.units (d_meth0 6 rfl Fa G_Reader_next_word (hr.mono (by omega)) tk nf_Reader_next_word (d_var 0)) (d_str [41]))
    (ss_one (s_expr (d_meth0 6 rfl Fa G_Reader_fail (hr.mono (by omega)) tk nf_Reader_fail (d_var 0))))
    ss_nil)
    (ss_one (s_expr (d_meth0 6 rfl Fa G_Reader_pass_word (hr.mono (by omega)) tk nf_Reader_pass_word (d_var 0)))))))
    (ss_cons (s_fld 21 rfl Fa (show 21 < 23 by decide) rfl (d_var 0) (e_sub (d_fld 21 rfl Fa (show 21 < 23 by decide) rfl (d_var 0)) d_int))
    (ss_one (s_ret (d_var 2))))))))))))
theorem grp_ok_Reader_any_of (T : Txt K mg A6 A4 A5 X3 X4 X5) (Fa : Facts (mkC K A6 A4 A5 X3 X4 X5)) (R_Reader_any_of : RawM K (mkC K A6 A4 A5 X3 X4 X5) 6 "any_of" "Reader.any_of" s_Reader_any_of ["self"]) (R_Reader_all_of : RawM K (mkC K A6 A4 A5 X3 X4 X5) 6 "all_of" "Reader.all_of" s_Reader_all_of ["self"]) (R_Reader_one : RawM K (mkC K A6 A4 A5 X3 X4 X5) 6 "one" "Reader.one" s_Reader_one ["self"]) (G_Reader_asked : GM P w K mg base (mkC K A6 A4 A5 X3 X4 X5) 6 "asked" 2 2 fn_Reader_asked) (G_Reader_fail : GM P w K mg base (mkC K A6 A4 A5 X3 X4 X5) 6 "fail" 1 1 fn_Reader_fail) (G_Reader_next_word : GM P w K mg base (mkC K A6 A4 A5 X3 X4 X5) 6 "next_word" 1 1 fn_Reader_next_word) (G_Reader_pass_word : GM P w K mg base (mkC K A6 A4 A5 X3 X4 X5) 6 "pass_word" 1 1 fn_Reader_pass_word) : ∀ n : Nat, GM P w K mg base (mkC K A6 A4 A5 X3 X4 X5) 6 "any_of" (2 + n) 1 (fn_Reader_any_of n) ∧ GM P w K mg base (mkC K A6 A4 A5 X3 X4 X5) 6 "all_of" (2 + n) 1 (fn_Reader_all_of n) ∧ GM P w K mg base (mkC K A6 A4 A5 X3 X4 X5) 6 "one" (2 + n) 1 (fn_Reader_one n)
  | 0 => ⟨GM.bad R_Reader_any_of, GM.bad R_Reader_all_of, GM.bad R_Reader_one⟩
  | n + 1 => by
    have ⟨I_Reader_any_of, I_Reader_all_of, I_Reader_one⟩ := grp_ok_Reader_any_of T Fa R_Reader_any_of R_Reader_all_of R_Reader_one G_Reader_asked G_Reader_fail G_Reader_next_word G_Reader_pass_word n
    exact ⟨ok_Reader_any_of T Fa R_Reader_any_of n G_Reader_next_word G_Reader_pass_word I_Reader_all_of, ok_Reader_all_of T Fa R_Reader_all_of n G_Reader_next_word G_Reader_pass_word I_Reader_one, ok_Reader_one T Fa R_Reader_one n G_Reader_asked G_Reader_fail G_Reader_next_word G_Reader_pass_word I_Reader_any_of I_Reader_one⟩
theorem ok_read_gate (T : Txt K mg A6 A4 A5 X3 X4 X5) (Fa : Facts (mkC K A6 A4 A5 X3 X4 X5)) (R : RawF K mg "read_gate" s_read_gate ["text"]) (G_Reader_init : GK P w K mg base (mkC K A6 A4 A5 X3 X4 X5) "Reader" 6 2 2 fn_Reader_init) (G_Reader_any_of : GM P w K mg base (mkC K A6 A4 A5 X3 X4 X5) 6 "any_of" 102 1 (fn_Reader_any_of 100)) (G_Reader_fail : GM P w K mg base (mkC K A6 A4 A5 X3 X4 X5) 6 "fail" 1 1 fn_Reader_fail) (G_Reader_next_word : GM P w K mg base (mkC K A6 A4 A5 X3 X4 X5) 6 "next_word" 1 1 fn_Reader_next_word) : GF P w K mg base (mkC K A6 A4 A5 X3 X4 X5) "read_gate" 103 1 fn_read_gate := by
  refine GF.mk' (k := 102) R sc_read_gate fun f cdv A outer s H E hr => ?_
  have tk := takes_cx (P := P) (w := w) (K := K) (mg := mg) (base := base) (N := ["text", "reader", "gate"]) (qual := "read_gate") (scope := defScope s_read_gate) (f := f) (cd := cdv) (A := A) (outer := outer) (s := s) (H := H) (E := E)
  have hp := passes_cx (P := P) (w := w) (K := K) (mg := mg) (base := base) (CX := L2.CX P w) (N := ["text", "reader", "gate"]) (qual := "read_gate") (scope := defScope s_read_gate) (f := f) (cd := cdv) (A := A) (outer := outer) (s := s) (H := H) (E := E)
  exact (ss_cons (s_set 1 sc_read_gate.nd (d_make G_Reader_init (hr.mono (by omega)) tk rfl (a_cons (d_var 0) a_nil)))
    (ss_cons (s_set 2 sc_read_gate.nd (d_meth0 6 rfl Fa G_Reader_any_of (hr.mono (by omega)) tk nf_Reader_any_of (d_var 1)))
    (ss_cons (s_if (t_ne rfl hr.units (d_meth0 6 rfl Fa G_Reader_next_word (hr.mono (by omega)) tk nf_Reader_next_word (d_var 1)) (d_str []))
    (ss_one (s_expr (d_meth0 6 rfl Fa G_Reader_fail (hr.mono (by omega)) tk nf_Reader_fail (d_var 1))))
    ss_nil)
    (ss_one (s_ret (d_var 2))))))
theorem ok_Hall_add_writer (T : Txt K mg A6 A4 A5 X3 X4 X5) (Fa : Facts (mkC K A6 A4 A5 X3 X4 X5)) (R : RawM K (mkC K A6 A4 A5 X3 X4 X5) 5 "add_writer" "Hall.add_writer" s_Hall_add_writer ["self", "name", "least", "gate", "form"]) (G_Writer_init : GK P w K mg base (mkC K A6 A4 A5 X3 X4 X5) "Writer" 4 1 5 fn_Writer_init) (G_read_form : GF P w K mg base (mkC K A6 A4 A5 X3 X4 X5) "read_form" 2 1 fn_read_form) (G_read_gate : GF P w K mg base (mkC K A6 A4 A5 X3 X4 X5) "read_gate" 103 1 fn_read_gate) : GM P w K mg base (mkC K A6 A4 A5 X3 X4 X5) 5 "add_writer" 104 5 fn_Hall_add_writer := by
  refine GM.mk' (k := 103) R sc_Hall_add_writer fun f cdv A outer s H E hr => ?_
  have tk := takes_cx (P := P) (w := w) (K := K) (mg := mg) (base := base) (N := ["self", "name", "least", "gate", "form", "read"]) (qual := "Hall.add_writer") (scope := defScope s_Hall_add_writer) (f := f) (cd := cdv) (A := A) (outer := outer) (s := s) (H := H) (E := E)
  have hp := passes_cx (P := P) (w := w) (K := K) (mg := mg) (base := base) (CX := L2.CX P w) (N := ["self", "name", "least", "gate", "form", "read"]) (qual := "Hall.add_writer") (scope := defScope s_Hall_add_writer) (f := f) (cd := cdv) (A := A) (outer := outer) (s := s) (H := H) (E := E)
  exact (ss_cons (s_set 5 sc_Hall_add_writer.nd (d_call (G_read_gate.close) (hr.mono (by omega)) tk rfl (a_cons (d_var 3) a_nil)))
    (ss_cons (s_expr (d_call (G_read_form.close) (hr.mono (by omega)) tk rfl (a_cons (d_var 4) a_nil)))
    (ss_cons (s_fld 0 rfl Fa (show 0 < 23 by decide) rfl (d_var 0) (e_add false rfl (d_fld 0 rfl Fa (show 0 < 23 by decide) rfl (d_var 0)) d_int))
    (ss_cons (s_asg (d_make G_Writer_init (hr.mono (by omega)) tk rfl (a_cons (d_var 1) (a_cons (d_var 2) (a_cons (d_var 5) (a_cons (d_var 4) a_nil))))) (g_sub (W := fun cv dx _ H' => E cv dx H') (hu1 hr.units) (d_fld 18 rfl Fa (show 18 < 23 by decide) rfl (d_var 0)) (d_fld 0 rfl Fa (show 0 < 23 by decide) rfl (d_var 0))))
    (ss_one (s_ret (d_fld 0 rfl Fa (show 0 < 23 by decide) rfl (d_var 0))))))))
theorem ok_Hall_close (T : Txt K mg A6 A4 A5 X3 X4 X5) (Fa : Facts (mkC K A6 A4 A5 X3 X4 X5)) (R : RawM K (mkC K A6 A4 A5 X3 X4 X5) 5 "close" "Hall.close" s_Hall_close ["self", "name", "closed"])  : GM P w K mg base (mkC K A6 A4 A5 X3 X4 X5) 5 "close" 1 3 fn_Hall_close := by
  refine GM.mk' (k := 0) R sc_Hall_close fun f cdv A outer s H E hr => ?_
  have tk := takes_cx (P := P) (w := w) (K := K) (mg := mg) (base := base) (N := ["self", "name", "closed"]) (qual := "Hall.close") (scope := defScope s_Hall_close) (f := f) (cd := cdv) (A := A) (outer := outer) (s := s) (H := H) (E := E)
  have hp := passes_cx (P := P) (w := w) (K := K) (mg := mg) (base := base) (CX := L2.CX P w) (N := ["self", "name", "closed"]) (qual := "Hall.close") (scope := defScope s_Hall_close) (f := f) (cd := cdv) (A := A) (outer := outer) (s := s) (H := H) (E := E)
  exact (ss_one (s_asg (d_var 2) (g_sub (W := fun cv dx _ H' => E cv dx H') (hu1 hr.units) (d_fld 17 rfl Fa (show 17 < 23 by decide) rfl (d_var 0)) (d_var 1))))
theorem ok_Hall_writer_at (T : Txt K mg A6 A4 A5 X3 X4 X5) (Fa : Facts (mkC K A6 A4 A5 X3 X4 X5)) (R : RawM K (mkC K A6 A4 A5 X3 X4 X5) 5 "writer_at" "Hall.writer_at" s_Hall_writer_at ["self", "number"])  : GM P w K mg base (mkC K A6 A4 A5 X3 X4 X5) 5 "writer_at" 1 2 fn_Hall_writer_at := by
  refine GM.mk' (k := 0) R sc_Hall_writer_at fun f cdv A outer s H E hr => ?_
  have tk := takes_cx (P := P) (w := w) (K := K) (mg := mg) (base := base) (N := ["self", "number"]) (qual := "Hall.writer_at") (scope := defScope s_Hall_writer_at) (f := f) (cd := cdv) (A := A) (outer := outer) (s := s) (H := H) (E := E)
  have hp := passes_cx (P := P) (w := w) (K := K) (mg := mg) (base := base) (CX := L2.CX P w) (N := ["self", "number"]) (qual := "Hall.writer_at") (scope := defScope s_Hall_writer_at) (f := f) (cd := cdv) (A := A) (outer := outer) (s := s) (H := H) (E := E)
  exact (ss_cons (s_if (t_notin rfl hr.units (d_var 1) (d_fld 18 rfl Fa (show 18 < 23 by decide) rfl (d_var 0)))
    (ss_one (s_raise0 5 rfl tk rfl rfl T.x_NoWriter T.g_NoWriter))
    ss_nil)
    (ss_one (s_ret (d_ix rfl (hu1 hr.units) (d_fld 18 rfl Fa (show 18 < 23 by decide) rfl (d_var 0)) (d_var 1)))))
theorem ok_Hall_rows (T : Txt K mg A6 A4 A5 X3 X4 X5) (Fa : Facts (mkC K A6 A4 A5 X3 X4 X5)) (R : RawM K (mkC K A6 A4 A5 X3 X4 X5) 5 "rows" "Hall.rows" s_Hall_rows ["self", "number"]) (G_Hall_writer_at : GM P w K mg base (mkC K A6 A4 A5 X3 X4 X5) 5 "writer_at" 1 2 fn_Hall_writer_at) : GM P w K mg base (mkC K A6 A4 A5 X3 X4 X5) 5 "rows" 2 2 fn_Hall_rows := by
  refine GM.mk' (k := 1) R sc_Hall_rows fun f cdv A outer s H E hr => ?_
  have tk := takes_cx (P := P) (w := w) (K := K) (mg := mg) (base := base) (N := ["self", "number"]) (qual := "Hall.rows") (scope := defScope s_Hall_rows) (f := f) (cd := cdv) (A := A) (outer := outer) (s := s) (H := H) (E := E)
  have hp := passes_cx (P := P) (w := w) (K := K) (mg := mg) (base := base) (CX := L2.CX P w) (N := ["self", "number"]) (qual := "Hall.rows") (scope := defScope s_Hall_rows) (f := f) (cd := cdv) (A := A) (outer := outer) (s := s) (H := H) (E := E)
  exact (ss_one (s_ret (e_tuple rfl T.n_tuple rfl (a_cons (d_fld 6 rfl Fa (show 6 < 23 by decide) rfl (d_meth 5 rfl Fa G_Hall_writer_at (hr.mono (by omega)) tk nf_Hall_writer_at (d_var 0) (a_cons (d_var 1) a_nil))) a_nil))))
theorem ok_Hall_set_level (T : Txt K mg A6 A4 A5 X3 X4 X5) (Fa : Facts (mkC K A6 A4 A5 X3 X4 X5)) (R : RawM K (mkC K A6 A4 A5 X3 X4 X5) 5 "set_level" "Hall.set_level" s_Hall_set_level ["self", "name", "level"])  : GM P w K mg base (mkC K A6 A4 A5 X3 X4 X5) 5 "set_level" 1 3 fn_Hall_set_level := by
  refine GM.mk' (k := 0) R sc_Hall_set_level fun f cdv A outer s H E hr => ?_
  have tk := takes_cx (P := P) (w := w) (K := K) (mg := mg) (base := base) (N := ["self", "name", "level"]) (qual := "Hall.set_level") (scope := defScope s_Hall_set_level) (f := f) (cd := cdv) (A := A) (outer := outer) (s := s) (H := H) (E := E)
  have hp := passes_cx (P := P) (w := w) (K := K) (mg := mg) (base := base) (CX := L2.CX P w) (N := ["self", "name", "level"]) (qual := "Hall.set_level") (scope := defScope s_Hall_set_level) (f := f) (cd := cdv) (A := A) (outer := outer) (s := s) (H := H) (E := E)
  exact (ss_one (s_asg (d_var 2) (g_sub (W := fun cv dx _ H' => E cv dx H') (hu1 hr.units) (d_fld 16 rfl Fa (show 16 < 23 by decide) rfl (d_var 0)) (d_var 1))))
theorem ok_Hall_take_away (T : Txt K mg A6 A4 A5 X3 X4 X5) (Fa : Facts (mkC K A6 A4 A5 X3 X4 X5)) (R : RawM K (mkC K A6 A4 A5 X3 X4 X5) 5 "take_away" "Hall.take_away" s_Hall_take_away ["self", "number"]) (G_Hall_writer_at : GM P w K mg base (mkC K A6 A4 A5 X3 X4 X5) 5 "writer_at" 1 2 fn_Hall_writer_at) : GM P w K mg base (mkC K A6 A4 A5 X3 X4 X5) 5 "take_away" 2 2 fn_Hall_take_away := by
  refine GM.mk' (k := 1) R sc_Hall_take_away fun f cdv A outer s H E hr => ?_
  have tk := takes_cx (P := P) (w := w) (K := K) (mg := mg) (base := base) (N := ["self", "number"]) (qual := "Hall.take_away") (scope := defScope s_Hall_take_away) (f := f) (cd := cdv) (A := A) (outer := outer) (s := s) (H := H) (E := E)
  have hp := passes_cx (P := P) (w := w) (K := K) (mg := mg) (base := base) (CX := L2.CX P w) (N := ["self", "number"]) (qual := "Hall.take_away") (scope := defScope s_Hall_take_away) (f := f) (cd := cdv) (A := A) (outer := outer) (s := s) (H := H) (E := E)
  exact (ss_cons (s_expr (d_meth 5 rfl Fa G_Hall_writer_at (hr.mono (by omega)) tk nf_Hall_writer_at (d_var 0) (a_cons (d_var 1) a_nil)))
    (ss_one (s_expr (e_dpop (d_fld 18 rfl Fa (show 18 < 23 by decide) rfl (d_var 0)) (d_var 1)))))
theorem ok__law_draw (T : Txt K mg A6 A4 A5 X3 X4 X5) (Fa : Facts (mkC K A6 A4 A5 X3 X4 X5)) (R : RawF K mg "_law_draw" s__law_draw ["_law_script", "_law_town", "_law_many"])  : GF P w K mg base (mkC K A6 A4 A5 X3 X4 X5) "_law_draw" 1 3 fn__law_draw := by
  refine GF.mk' (k := 0) R sc__law_draw fun f cdv A outer s H E hr => ?_
  have tk := takes_cx (P := P) (w := w) (K := K) (mg := mg) (base := base) (N := ["_law_script", "_law_town", "_law_many", "_law_k", "_law_cell", "_law_number", "_law_more"]) (qual := "_law_draw") (scope := defScope s__law_draw) (f := f) (cd := cdv) (A := A) (outer := outer) (s := s) (H := H) (E := E)
  have hp := passes_cx (P := P) (w := w) (K := K) (mg := mg) (base := base) (CX := L2.CX P w) (N := ["_law_script", "_law_town", "_law_many", "_law_k", "_law_cell", "_law_number", "_law_more"]) (qual := "_law_draw") (scope := defScope s__law_draw) (f := f) (cd := cdv) (A := A) (outer := outer) (s := s) (H := H) (E := E)
  exact (ss_cons (s_expr (e_append rfl (d_var 1) (a_cons d_int a_nil)))
    (ss_cons (s_set 3 sc__law_draw.nd (e_len rfl T.n_len rfl (a_cons (d_var 1) a_nil)))
    (ss_cons (s_set 4 sc__law_draw.nd d_int)
    (ss_cons (s_if (t_tru rfl (d_var 0))
    (ss_one (s_set 4 sc__law_draw.nd (d_ix rfl (hu1 hr.units) (d_var 0) (e_mod (d_var 3) (e_len rfl T.n_len rfl (a_cons (d_var 0) a_nil))))))
    ss_nil)
    (ss_cons (s_set 5 sc__law_draw.nd (e_mod (e_add false rfl (d_var 4) (e_mul false rfl d_int (d_var 3))) d_int))
    (ss_cons (s_set 5 sc__law_draw.nd (e_mod (e_mul false rfl (e_mod (e_mul false rfl (d_var 5) (d_var 5)) d_int) d_int) d_int))
    (ss_cons (s_set 6 sc__law_draw.nd (e_mod (e_mul false rfl (e_mod (e_mul false rfl (d_var 5) (d_var 5)) d_int) d_int) d_int))
    (ss_one (s_ret (e_mod (e_add false rfl (e_mul false rfl (e_fdiv (d_var 5) d_int) d_int) (e_fdiv (d_var 6) d_int)) (d_var 2)))))))))))
theorem ok__law_pick (T : Txt K mg A6 A4 A5 X3 X4 X5) (Fa : Facts (mkC K A6 A4 A5 X3 X4 X5)) (R : RawF K mg "_law_pick" s__law_pick ["_law_script", "_law_town", "_law_some"]) (G__law_draw : GF P w K mg base (mkC K A6 A4 A5 X3 X4 X5) "_law_draw" 1 3 fn__law_draw) : GF P w K mg base (mkC K A6 A4 A5 X3 X4 X5) "_law_pick" 2 3 fn__law_pick := by
  refine GF.mk' (k := 1) R sc__law_pick fun f cdv A outer s H E hr => ?_
  have tk := takes_cx (P := P) (w := w) (K := K) (mg := mg) (base := base) (N := ["_law_script", "_law_town", "_law_some"]) (qual := "_law_pick") (scope := defScope s__law_pick) (f := f) (cd := cdv) (A := A) (outer := outer) (s := s) (H := H) (E := E)
  have hp := passes_cx (P := P) (w := w) (K := K) (mg := mg) (base := base) (CX := L2.CX P w) (N := ["_law_script", "_law_town", "_law_some"]) (qual := "_law_pick") (scope := defScope s__law_pick) (f := f) (cd := cdv) (A := A) (outer := outer) (s := s) (H := H) (E := E)
  exact (ss_one (s_ret (d_ix rfl (hu1 hr.units) (d_var 2) (d_call G__law_draw (hr.mono (by omega)) tk rfl (a_cons (d_var 0) (a_cons (d_var 1) (a_cons (e_len rfl T.n_len rfl (a_cons (d_var 2) a_nil)) a_nil)))))))
theorem ok__law_name (T : Txt K mg A6 A4 A5 X3 X4 X5) (Fa : Facts (mkC K A6 A4 A5 X3 X4 X5)) (R : RawF K mg "_law_name" s__law_name ["_law_script", "_law_town"]) (G__law_draw : GF P w K mg base (mkC K A6 A4 A5 X3 X4 X5) "_law_draw" 1 3 fn__law_draw) (G__law_pick : GF P w K mg base (mkC K A6 A4 A5 X3 X4 X5) "_law_pick" 2 3 fn__law_pick) : GF P w K mg base (mkC K A6 A4 A5 X3 X4 X5) "_law_name" 3 2 fn__law_name := by
  refine GF.mk' (k := 2) R sc__law_name fun f cdv A outer s H E hr => ?_
  have tk := takes_cx (P := P) (w := w) (K := K) (mg := mg) (base := base) (N := ["_law_script", "_law_town", "_law_got", "_law_turn"]) (qual := "_law_name") (scope := defScope s__law_name) (f := f) (cd := cdv) (A := A) (outer := outer) (s := s) (H := H) (E := E)
  have hp := passes_cx (P := P) (w := w) (K := K) (mg := mg) (base := base) (CX := L2.CX P w) (N := ["_law_script", "_law_town", "_law_got", "_law_turn"]) (qual := "_law_name") (scope := defScope s__law_name) (f := f) (cd := cdv) (A := A) (outer := outer) (s := s) (H := H) (E := E)
  exact (ss_cons (s_setLc false [("_law_turn", 3)] 2 rfl sc__law_name.nd (i_range1 rfl T.n_range (a_cons (d_call G__law_draw (hr.mono (by omega)) tk rfl (a_cons (d_var 0) (a_cons (d_var 1) (a_cons d_int a_nil)))) a_nil)) (blkX (N := ["_law_script", "_law_town", "_law_got", "_law_turn"]) (sc := defScope s__law_name) (by decide +kernel)) (by decide) (fun _ _ _ _ _ => (g_name 3 sc__law_name.nd)) (fun _ _ _ _ _ => ts_nil) (fun _ _ _ _ _ => (d_call G__law_pick (hr.mono (by omega)) takes0 rfl (a_cons (d_var 0) (a_cons (d_var 1) (a_cons (d_lst false (a_cons (d_str [97]) (a_cons (d_str [98]) (a_cons (d_str [97, 98]) (a_cons (d_str [120, 95, 57]) (a_cons (d_str [97, 98, 99, 100, 101, 102, 103, 104]) a_nil)))))) a_nil))))) (sw_true rfl rfl rfl (by decide +kernel)))
    (ss_one (s_ret (e_join rfl (d_str [46]) (a_cons (d_var 2) a_nil)))))
theorem ok__law_gate (T : Txt K mg A6 A4 A5 X3 X4 X5) (Fa : Facts (mkC K A6 A4 A5 X3 X4 X5)) (R : RawF K mg "_law_gate" s__law_gate ["_law_script", "_law_town", "_law_deep"]) (n : Nat) (G__law_draw : GF P w K mg base (mkC K A6 A4 A5 X3 X4 X5) "_law_draw" 1 3 fn__law_draw) (G__law_name : GF P w K mg base (mkC K A6 A4 A5 X3 X4 X5) "_law_name" 3 2 fn__law_name) (G__law_pick : GF P w K mg base (mkC K A6 A4 A5 X3 X4 X5) "_law_pick" 2 3 fn__law_pick) (R__law_gate : GF P w K mg base (mkC K A6 A4 A5 X3 X4 X5) "_law_gate" (3 + n) 3 (fn__law_gate n)) : GF P w K mg base (mkC K A6 A4 A5 X3 X4 X5) "_law_gate" (3 + n + 1) 3 (fn__law_gate (n + 1)) := by
  show GF P w K mg base (mkC K A6 A4 A5 X3 X4 X5) "_law_gate" (3 + n + 1) 3 (runFn ["_law_script", "_law_town", "_law_deep", "_law_word", "_law_one", "_law_other"].length (B__law_gate (fn__law_gate n)))
  refine GF.mk' (k := 3 + n) R sc__law_gate fun f cdv A outer s H E hr => ?_
  have tk := takes_cx (P := P) (w := w) (K := K) (mg := mg) (base := base) (N := ["_law_script", "_law_town", "_law_deep", "_law_word", "_law_one", "_law_other"]) (qual := "_law_gate") (scope := defScope s__law_gate) (f := f) (cd := cdv) (A := A) (outer := outer) (s := s) (H := H) (E := E)
  have hp := passes_cx (P := P) (w := w) (K := K) (mg := mg) (base := base) (CX := L2.CX P w) (N := ["_law_script", "_law_town", "_law_deep", "_law_word", "_law_one", "_law_other"]) (qual := "_law_gate") (scope := defScope s__law_gate) (f := f) (cd := cdv) (A := A) (outer := outer) (s := s) (H := H) (E := E)
  exact (ss_cons (s_set 3 sc__law_gate.nd (d_call G__law_draw (hr.mono (by omega)) tk rfl (a_cons (d_var 0) (a_cons (d_var 1) (a_cons (d_ifExp (t_tru rfl (d_var 2)) d_int d_int) a_nil)))))
    (ss_cons (s_if (t_eq rfl hr.units (d_var 3) d_int)
    (ss_one (s_ret (d_tup (a_cons (d_call G__law_pick (hr.mono (by omega)) tk rfl (a_cons (d_var 0) (a_cons (d_var 1) (a_cons (d_lst false (a_cons (d_str [121, 101, 115]) (a_cons (d_str [110, 111]) a_nil))) a_nil)))) a_nil))))
    ss_nil)
    (ss_cons (s_if (t_eq rfl hr.units (d_var 3) d_int)
    (ss_one (s_ret (d_tup (a_cons (d_str [108, 101, 118, 101, 108]) (a_cons (d_call G__law_draw (hr.mono (by omega)) tk rfl (a_cons (d_var 0) (a_cons (d_var 1) (a_cons d_int a_nil)))) a_nil)))))
    ss_nil)
    (ss_cons (s_if (t_eq rfl hr.units (d_var 3) d_int)
    (ss_one (s_ret (d_tup (a_cons (d_str [117, 110, 100, 101, 114]) (a_cons (d_call G__law_name (hr.mono (by omega)) tk rfl (a_cons (d_var 0) (a_cons (d_var 1) a_nil))) a_nil)))))
    ss_nil)
    (ss_cons (s_if (t_eq rfl hr.units (d_var 3) d_int)
    (ss_one (s_ret (d_tup (a_cons (d_str [104, 97, 115]) (a_cons (d_call G__law_pick (hr.mono (by omega)) tk rfl (a_cons (d_var 0) (a_cons (d_var 1) (a_cons (d_lst false (a_cons (d_str []) (a_cons (d_str [97]) (a_cons (d_str [32, 98]) (a_cons (d_str [120]) (a_cons (d_str [102, 117, 108, 108]) a_nil)))))) a_nil)))) a_nil)))))
    ss_nil)
    (ss_cons (s_if (t_lt (d_var 3) d_int)
    (ss_one (s_ret (d_tup (a_cons (d_str [110, 111, 116]) (a_cons (d_call R__law_gate hr tk rfl (a_cons (d_var 0) (a_cons (d_var 1) (a_cons (e_sub (d_var 2) d_int) a_nil)))) a_nil)))))
    ss_nil)
    (ss_cons (s_par 4 5 rfl sc__law_gate.nd (a_cons (d_call R__law_gate hr tk rfl (a_cons (d_var 0) (a_cons (d_var 1) (a_cons (e_sub (d_var 2) d_int) a_nil)))) (a_cons (d_call R__law_gate hr tk rfl (a_cons (d_var 0) (a_cons (d_var 1) (a_cons (e_sub (d_var 2) d_int) a_nil)))) a_nil)))
    (ss_one (s_ret (d_tup (a_cons (d_call G__law_pick (hr.mono (by omega)) tk rfl (a_cons (d_var 0) (a_cons (d_var 1) (a_cons (d_lst false (a_cons (d_str [97, 110, 100]) (a_cons (d_str [111, 114]) a_nil))) a_nil)))) (a_cons (d_var 4) (a_cons (d_var 5) a_nil)))))))))))))
theorem grp_ok__law_gate (T : Txt K mg A6 A4 A5 X3 X4 X5) (Fa : Facts (mkC K A6 A4 A5 X3 X4 X5)) (R__law_gate : RawF K mg "_law_gate" s__law_gate ["_law_script", "_law_town", "_law_deep"]) (G__law_draw : GF P w K mg base (mkC K A6 A4 A5 X3 X4 X5) "_law_draw" 1 3 fn__law_draw) (G__law_name : GF P w K mg base (mkC K A6 A4 A5 X3 X4 X5) "_law_name" 3 2 fn__law_name) (G__law_pick : GF P w K mg base (mkC K A6 A4 A5 X3 X4 X5) "_law_pick" 2 3 fn__law_pick) : ∀ n : Nat, GF P w K mg base (mkC K A6 A4 A5 X3 X4 X5) "_law_gate" (3 + n) 3 (fn__law_gate n)
  | 0 => GF.bad R__law_gate
  | n + 1 => by
    have I__law_gate := grp_ok__law_gate T Fa R__law_gate G__law_draw G__law_name G__law_pick n
    exact ok__law_gate T Fa R__law_gate n G__law_draw G__law_name G__law_pick I__law_gate
theorem ok__law_record (T : Txt K mg A6 A4 A5 X3 X4 X5) (Fa : Facts (mkC K A6 A4 A5 X3 X4 X5)) (R : RawF K mg "_law_record" s__law_record ["_law_script", "_law_town", "_law_moment"]) (G__law_draw : GF P w K mg base (mkC K A6 A4 A5 X3 X4 X5) "_law_draw" 1 3 fn__law_draw) (G__law_name : GF P w K mg base (mkC K A6 A4 A5 X3 X4 X5) "_law_name" 3 2 fn__law_name) (G__law_pick : GF P w K mg base (mkC K A6 A4 A5 X3 X4 X5) "_law_pick" 2 3 fn__law_pick) : GF P w K mg base (mkC K A6 A4 A5 X3 X4 X5) "_law_record" 4 3 fn__law_record := by
  refine GF.mk' (k := 3) R sc__law_record fun f cdv A outer s H E hr => ?_
  have tk := takes_cx (P := P) (w := w) (K := K) (mg := mg) (base := base) (N := ["_law_script", "_law_town", "_law_moment", "_law_words"]) (qual := "_law_record") (scope := defScope s__law_record) (f := f) (cd := cdv) (A := A) (outer := outer) (s := s) (H := H) (E := E)
  have hp := passes_cx (P := P) (w := w) (K := K) (mg := mg) (base := base) (CX := L2.CX P w) (N := ["_law_script", "_law_town", "_law_moment", "_law_words"]) (qual := "_law_record") (scope := defScope s__law_record) (f := f) (cd := cdv) (A := A) (outer := outer) (s := s) (H := H) (E := E)
  exact (ss_cons (s_set 3 sc__law_record.nd (d_call G__law_pick (hr.mono (by omega)) tk rfl (a_cons (d_var 0) (a_cons (d_var 1) (a_cons (d_lst false (a_cons (d_str []) (a_cons (d_str [97, 32, 98]) (a_cons (d_str [105, 116, 39, 115]) (a_cons (d_str [120]) (a_cons (d_str [32, 32, 116, 119, 111]) (a_cons (d_str [100, 105, 115, 107, 32, 123, 102, 117, 108, 108, 125]) (a_cons (e_mulS (d_str [119]) d_int) a_nil)))))))) a_nil)))))
    (ss_one (s_ret (d_tup (a_cons (d_var 2) (a_cons (d_call G__law_draw (hr.mono (by omega)) tk rfl (a_cons (d_var 0) (a_cons (d_var 1) (a_cons d_int a_nil)))) (a_cons (d_call G__law_name (hr.mono (by omega)) tk rfl (a_cons (d_var 0) (a_cons (d_var 1) a_nil))) (a_cons (d_var 3) a_nil))))))))
theorem ok__law_refused (T : Txt K mg A6 A4 A5 X3 X4 X5) (Fa : Facts (mkC K A6 A4 A5 X3 X4 X5)) (R : RawF K mg "_law_refused" s__law_refused ["_law_hall", "_law_name_here", "_law_numbers"]) (G_Hall_add_writer : GM P w K mg base (mkC K A6 A4 A5 X3 X4 X5) 5 "add_writer" 104 5 fn_Hall_add_writer) (G_Hall_rows : GM P w K mg base (mkC K A6 A4 A5 X3 X4 X5) 5 "rows" 2 2 fn_Hall_rows) (G_Hall_take_away : GM P w K mg base (mkC K A6 A4 A5 X3 X4 X5) 5 "take_away" 2 2 fn_Hall_take_away) : GF P w K mg base (mkC K A6 A4 A5 X3 X4 X5) "_law_refused" 105 3 fn__law_refused := by
  refine GF.mk' (k := 104) R sc__law_refused fun f cdv A outer s H E hr => ?_
  have tk := takes_cx (P := P) (w := w) (K := K) (mg := mg) (base := base) (N := ["_law_hall", "_law_name_here", "_law_numbers", "_law_got", "_law_before", "_law_number", "_law_gate_here", "_law_form", "_law_word"]) (qual := "_law_refused") (scope := defScope s__law_refused) (f := f) (cd := cdv) (A := A) (outer := outer) (s := s) (H := H) (E := E)
  have hp := passes_cx (P := P) (w := w) (K := K) (mg := mg) (base := base) (CX := L2.CX P w) (N := ["_law_hall", "_law_name_here", "_law_numbers", "_law_got", "_law_before", "_law_number", "_law_gate_here", "_law_form", "_law_word"]) (qual := "_law_refused") (scope := defScope s__law_refused) (f := f) (cd := cdv) (A := A) (outer := outer) (s := s) (H := H) (E := E)
  exact (ss_cons (s_par 3 4 rfl sc__law_refused.nd (a_cons d_int (a_cons (d_lc false [("_law_number", 5)] rfl sc__law_refused.nd (i_seq rfl (d_var 2)) (blkX (N := ["_law_hall", "_law_name_here", "_law_numbers", "_law_got", "_law_before", "_law_number", "_law_gate_here", "_law_form", "_law_word"]) (sc := defScope s__law_refused) (by decide +kernel)) (by decide) (fun _ _ _ _ _ => (g_name 5 sc__law_refused.nd)) (fun _ _ _ _ _ => ts_nil) (fun _ _ _ _ _ => (d_meth 5 rfl Fa G_Hall_rows (hr.mono (by omega)) takes0 nf_Hall_rows (d_var 0) (a_cons (d_var 5) a_nil)))) a_nil)))
    (ss_cons (s_for hp rfl (i_seq rfl (d_tup (a_cons (d_tup (a_cons (d_str [109, 97, 121, 98, 101]) (a_cons (d_str [123]) a_nil))) (a_cons (d_tup (a_cons (d_str [121, 101, 115]) (a_cons (d_str [123, 120, 125]) a_nil))) a_nil)))) (g_tup rfl rfl (gs_cons (g_name 6 sc__law_refused.nd) (gs_cons (g_name 7 sc__law_refused.nd) gs_nil)))
    (ss_one (s_try2 3 4 rfl rfl rfl ⟨rfl, by decide, .inl T.g_BadGate⟩ ⟨rfl, by decide, .inl T.g_BadForm⟩ tk T.m_BadGate T.m_BadForm (fun W1 pn xe tk hp => (ss_one (s_expr (d_meth 5 rfl Fa G_Hall_add_writer (hr.mono (by omega)) tk nf_Hall_add_writer (d_var 0) (a_cons (d_var 1) (a_cons d_int (a_cons (d_var 6) (a_cons (d_var 7) a_nil)))))))) (fun a pn => (ss_one (s_set 3 sc__law_refused.nd (e_add false rfl (d_var 3) d_int)))) (fun a pn => (ss_one (s_set 3 sc__law_refused.nd (e_add false rfl (d_var 3) d_int)))))))
    (ss_cons (s_for hp rfl (i_seq rfl (d_tup (a_cons (d_str [116, 97, 107, 101]) (a_cons (d_str [114, 111, 119, 115]) a_nil)))) (g_name 8 sc__law_refused.nd)
    (ss_one (s_try 5 rfl rfl rfl ⟨rfl, by decide, .inl T.g_NoWriter⟩ tk T.m_NoWriter (fun W1 pn xe tk hp => (ss_one (s_if (t_eq rfl hr.units (d_var 8) (d_str [116, 97, 107, 101]))
    (ss_one (s_expr (d_meth 5 rfl Fa G_Hall_take_away (hr.mono (by omega)) tk nf_Hall_take_away (d_var 0) (a_cons d_int a_nil))))
    (ss_one (s_expr (d_meth 5 rfl Fa G_Hall_rows (hr.mono (by omega)) tk nf_Hall_rows (d_var 0) (a_cons d_int a_nil))))))) (fun a pn => (ss_one (s_set 3 sc__law_refused.nd (e_add false rfl (d_var 3) d_int)))))))
    (ss_one (s_ret (d_and rfl (e_eq rfl hr.units (d_var 3) d_int) (d_one (e_eq rfl hr.units (d_lc false [("_law_number", 5)] rfl sc__law_refused.nd (i_seq rfl (d_var 2)) (blkX (N := ["_law_hall", "_law_name_here", "_law_numbers", "_law_got", "_law_before", "_law_number", "_law_gate_here", "_law_form", "_law_word"]) (sc := defScope s__law_refused) (by decide +kernel)) (by decide) (fun _ _ _ _ _ => (g_name 5 sc__law_refused.nd)) (fun _ _ _ _ _ => ts_nil) (fun _ _ _ _ _ => (d_meth 5 rfl Fa G_Hall_rows (hr.mono (by omega)) takes0 nf_Hall_rows (d_var 0) (a_cons (d_var 5) a_nil)))) (d_var 4)))))))))
theorem ok_above (T : Txt K mg A6 A4 A5 X3 X4 X5) (Fa : Facts (mkC K A6 A4 A5 X3 X4 X5)) (R : RawF K mg "above" s_above ["name"])  : GF P w K mg base (mkC K A6 A4 A5 X3 X4 X5) "above" 1 1 fn_above := by
  refine GF.mk' (k := 0) R sc_above fun f cdv A outer s H E hr => ?_
  have tk := takes_cx (P := P) (w := w) (K := K) (mg := mg) (base := base) (N := ["name", "parts", "many"]) (qual := "above") (scope := defScope s_above) (f := f) (cd := cdv) (A := A) (outer := outer) (s := s) (H := H) (E := E)
  have hp := passes_cx (P := P) (w := w) (K := K) (mg := mg) (base := base) (CX := L2.CX P w) (N := ["name", "parts", "many"]) (qual := "above") (scope := defScope s_above) (f := f) (cd := cdv) (A := A) (outer := outer) (s := s) (H := H) (E := E)
  exact (ss_cons (s_if (t_eq rfl hr.units (d_var 0) (d_str []))
    (ss_one (s_ret (d_tup a_nil)))
    ss_nil)
    (ss_cons (s_set 1 sc_above.nd (e_split false rfl (d_var 0) (a_cons (d_str [46]) a_nil)))
    (ss_one (s_ret (e_tuple rfl T.n_tuple rfl (a_cons (d_lc false [("many", 2)] rfl sc_above.nd (i_range3 rfl T.n_range (a_cons (e_sub (e_len rfl T.n_len rfl (a_cons (d_var 1) a_nil)) d_int) (a_cons (e_neg d_int) (a_cons (e_neg d_int) a_nil)))) (blkX (N := ["name", "parts", "many"]) (sc := defScope s_above) (by decide +kernel)) (by decide) (fun _ _ _ _ _ => (g_name 2 sc_above.nd)) (fun _ _ _ _ _ => ts_nil) (fun _ _ _ _ _ => (e_join rfl (d_str [46]) (a_cons (d_slice false rfl (d_var 1) o_none (o_some (d_var 2))) a_nil)))) a_nil))))))
theorem ok_Hall_level_of (T : Txt K mg A6 A4 A5 X3 X4 X5) (Fa : Facts (mkC K A6 A4 A5 X3 X4 X5)) (R : RawM K (mkC K A6 A4 A5 X3 X4 X5) 5 "level_of" "Hall.level_of" s_Hall_level_of ["self", "name"]) (G_above : GF P w K mg base (mkC K A6 A4 A5 X3 X4 X5) "above" 1 1 fn_above) : GM P w K mg base (mkC K A6 A4 A5 X3 X4 X5) 5 "level_of" 2 2 fn_Hall_level_of := by
  refine GM.mk' (k := 1) R sc_Hall_level_of fun f cdv A outer s H E hr => ?_
  have tk := takes_cx (P := P) (w := w) (K := K) (mg := mg) (base := base) (N := ["self", "name", "one"]) (qual := "Hall.level_of") (scope := defScope s_Hall_level_of) (f := f) (cd := cdv) (A := A) (outer := outer) (s := s) (H := H) (E := E)
  have hp := passes_cx (P := P) (w := w) (K := K) (mg := mg) (base := base) (CX := L2.CX P w) (N := ["self", "name", "one"]) (qual := "Hall.level_of") (scope := defScope s_Hall_level_of) (f := f) (cd := cdv) (A := A) (outer := outer) (s := s) (H := H) (E := E)
  exact (ss_cons (s_for hp rfl (i_seq rfl (e_add false rfl (d_tup (a_cons (d_var 1) a_nil)) (d_call (G_above.close) (hr.mono (by omega)) tk rfl (a_cons (d_var 1) a_nil)))) (g_name 2 sc_Hall_level_of.nd)
    (ss_one (s_if (t_in rfl hr.units (d_var 2) (d_fld 16 rfl Fa (show 16 < 23 by decide) rfl (d_var 0)))
    (ss_one (s_ret (d_ix rfl (hu1 hr.units) (d_fld 16 rfl Fa (show 16 < 23 by decide) rfl (d_var 0)) (d_var 2))))
    ss_nil)))
    (ss_one (s_ret (d_cst rfl T.k_TOP_LEVEL rfl))))
theorem ok_Hall_is_told (T : Txt K mg A6 A4 A5 X3 X4 X5) (Fa : Facts (mkC K A6 A4 A5 X3 X4 X5)) (R : RawM K (mkC K A6 A4 A5 X3 X4 X5) 5 "is_told" "Hall.is_told" s_Hall_is_told ["self", "name", "level"]) (G_Hall_level_of : GM P w K mg base (mkC K A6 A4 A5 X3 X4 X5) 5 "level_of" 2 2 fn_Hall_level_of) : GM P w K mg base (mkC K A6 A4 A5 X3 X4 X5) 5 "is_told" 3 3 fn_Hall_is_told := by
  refine GM.mk' (k := 2) R sc_Hall_is_told fun f cdv A outer s H E hr => ?_
  have tk := takes_cx (P := P) (w := w) (K := K) (mg := mg) (base := base) (N := ["self", "name", "level"]) (qual := "Hall.is_told") (scope := defScope s_Hall_is_told) (f := f) (cd := cdv) (A := A) (outer := outer) (s := s) (H := H) (E := E)
  have hp := passes_cx (P := P) (w := w) (K := K) (mg := mg) (base := base) (CX := L2.CX P w) (N := ["self", "name", "level"]) (qual := "Hall.is_told") (scope := defScope s_Hall_is_told) (f := f) (cd := cdv) (A := A) (outer := outer) (s := s) (H := H) (E := E)
  exact (ss_one (s_ret (d_and rfl (e_ge (d_var 2) (d_fld 19 rfl Fa (show 19 < 23 by decide) rfl (d_var 0))) (d_one (e_ge (d_var 2) (d_meth 5 rfl Fa G_Hall_level_of (hr.mono (by omega)) tk nf_Hall_level_of (d_var 0) (a_cons (d_var 1) a_nil)))))))
theorem ok_Hall_ways (T : Txt K mg A6 A4 A5 X3 X4 X5) (Fa : Facts (mkC K A6 A4 A5 X3 X4 X5)) (R : RawM K (mkC K A6 A4 A5 X3 X4 X5) 5 "ways" "Hall.ways" s_Hall_ways ["self", "name"]) (G_above : GF P w K mg base (mkC K A6 A4 A5 X3 X4 X5) "above" 1 1 fn_above) : GM P w K mg base (mkC K A6 A4 A5 X3 X4 X5) 5 "ways" 2 2 fn_Hall_ways := by
  refine GM.mk' (k := 1) R sc_Hall_ways fun f cdv A outer s H E hr => ?_
  have tk := takes_cx (P := P) (w := w) (K := K) (mg := mg) (base := base) (N := ["self", "name", "found", "one"]) (qual := "Hall.ways") (scope := defScope s_Hall_ways) (f := f) (cd := cdv) (A := A) (outer := outer) (s := s) (H := H) (E := E)
  have hp := passes_cx (P := P) (w := w) (K := K) (mg := mg) (base := base) (CX := L2.CX P w) (N := ["self", "name", "found", "one"]) (qual := "Hall.ways") (scope := defScope s_Hall_ways) (f := f) (cd := cdv) (A := A) (outer := outer) (s := s) (H := H) (E := E)
  exact (ss_cons (s_set 2 sc_Hall_ways.nd (d_tup a_nil))
    (ss_cons (s_for hp rfl (i_seq rfl (e_add false rfl (d_tup (a_cons (d_var 1) a_nil)) (d_call (G_above.close) (hr.mono (by omega)) tk rfl (a_cons (d_var 1) a_nil)))) (g_name 3 sc_Hall_ways.nd)
    (ss_cons (s_set 2 sc_Hall_ways.nd (e_add false rfl (d_var 2) (d_tup (a_cons (d_var 3) a_nil))))
    (ss_one (s_if (t_tru rfl (e_get2 (hu1 hr.units) (d_fld 17 rfl Fa (show 17 < 23 by decide) rfl (d_var 0)) (d_var 3) d_bl))
    (ss_one (s_ret (d_var 2)))
    ss_nil))))
    (ss_one (s_ret (d_var 2)))))
theorem ok_level_word (T : Txt K mg A6 A4 A5 X3 X4 X5) (Fa : Facts (mkC K A6 A4 A5 X3 X4 X5)) (R : RawF K mg "level_word" s_level_word ["level"])  : GF P w K mg base (mkC K A6 A4 A5 X3 X4 X5) "level_word" 1 1 fn_level_word := by
  refine GF.mk' (k := 0) R sc_level_word fun f cdv A outer s H E hr => ?_
  have tk := takes_cx (P := P) (w := w) (K := K) (mg := mg) (base := base) (N := ["level", "at", "more"]) (qual := "level_word") (scope := defScope s_level_word) (f := f) (cd := cdv) (A := A) (outer := outer) (s := s) (H := H) (E := E)
  have hp := passes_cx (P := P) (w := w) (K := K) (mg := mg) (base := base) (CX := L2.CX P w) (N := ["level", "at", "more"]) (qual := "level_word") (scope := defScope s_level_word) (f := f) (cd := cdv) (A := A) (outer := outer) (s := s) (H := H) (E := E)
  exact (ss_cons (s_set 1 sc_level_word.nd (e_min2 rfl rfl T.n_min rfl (a_cons (e_fdiv (d_var 0) d_int) (a_cons (e_sub (e_len rfl T.n_len rfl (a_cons (d_cst rfl T.k_WORDS rfl) a_nil)) d_int) a_nil))))
    (ss_cons (s_set 2 sc_level_word.nd (e_sub (d_var 0) (e_mul false rfl d_int (d_var 1))))
    (ss_cons (s_if (t_eq rfl hr.units (d_var 2) d_int)
    (ss_one (s_ret (d_ix rfl (hu1 hr.units) (d_cst rfl T.k_WORDS rfl) (d_var 1))))
    ss_nil)
    (ss_one (s_ret (d_join (j_cons (j_val (d_ix rfl (hu1 hr.units) (d_cst rfl T.k_WORDS rfl) (d_var 1))) (j_cons (d_str [43]) (j_cons (j_val (d_var 2)) j_nil)))))))))
theorem ok_field_text (T : Txt K mg A6 A4 A5 X3 X4 X5) (Fa : Facts (mkC K A6 A4 A5 X3 X4 X5)) (R : RawF K mg "field_text" s_field_text ["word", "record"]) (G_level_word : GF P w K mg base (mkC K A6 A4 A5 X3 X4 X5) "level_word" 1 1 fn_level_word) : GF P w K mg base (mkC K A6 A4 A5 X3 X4 X5) "field_text" 2 2 fn_field_text := by
  refine GF.mk' (k := 1) R sc_field_text fun f cdv A outer s H E hr => ?_
  have tk := takes_cx (P := P) (w := w) (K := K) (mg := mg) (base := base) (N := ["word", "record"]) (qual := "field_text") (scope := defScope s_field_text) (f := f) (cd := cdv) (A := A) (outer := outer) (s := s) (H := H) (E := E)
  have hp := passes_cx (P := P) (w := w) (K := K) (mg := mg) (base := base) (CX := L2.CX P w) (N := ["word", "record"]) (qual := "field_text") (scope := defScope s_field_text) (f := f) (cd := cdv) (A := A) (outer := outer) (s := s) (H := H) (E := E)
  exact (ss_cons (s_if (t_eq rfl hr.units (d_var 0) (d_str [109, 111, 109, 101, 110, 116]))
    (ss_one (s_ret (e_str T.n_str rfl (a_cons (d_ix rfl (hu1 hr.units) (d_var 1) d_int) a_nil))))
    ss_nil)
    (ss_cons (s_if (t_eq rfl hr.units (d_var 0) (d_str [108, 101, 118, 101, 108]))
    (ss_one (s_ret (d_call (G_level_word.close) (hr.mono (by omega)) tk rfl (a_cons (d_ix rfl (hu1 hr.units) (d_var 1) d_int) a_nil))))
    ss_nil)
    (ss_cons (s_if (t_eq rfl hr.units (d_var 0) (d_str [110, 97, 109, 101]))
    (ss_one (s_ret (d_or rfl (d_ix rfl (hu1 hr.units) (d_var 1) d_int) (d_one (d_str [42])))))
    ss_nil)
    (ss_one (s_ret (d_ix rfl (hu1 hr.units) (d_var 1) d_int))))))
theorem ok_laid_part (T : Txt K mg A6 A4 A5 X3 X4 X5) (Fa : Facts (mkC K A6 A4 A5 X3 X4 X5)) (R : RawF K mg "laid_part" s_laid_part ["part", "record"]) (G_field_text : GF P w K mg base (mkC K A6 A4 A5 X3 X4 X5) "field_text" 2 2 fn_field_text) : GF P w K mg base (mkC K A6 A4 A5 X3 X4 X5) "laid_part" 3 2 fn_laid_part := by
  refine GF.mk' (k := 2) R sc_laid_part fun f cdv A outer s H E hr => ?_
  have tk := takes_cx (P := P) (w := w) (K := K) (mg := mg) (base := base) (N := ["part", "record", "text"]) (qual := "laid_part") (scope := defScope s_laid_part) (f := f) (cd := cdv) (A := A) (outer := outer) (s := s) (H := H) (E := E)
  have hp := passes_cx (P := P) (w := w) (K := K) (mg := mg) (base := base) (CX := L2.CX P w) (N := ["part", "record", "text"]) (qual := "laid_part") (scope := defScope s_laid_part) (f := f) (cd := cdv) (A := A) (outer := outer) (s := s) (H := H) (E := E)
  exact (ss_cons (s_if (t_eq rfl hr.units (d_ix rfl (hu1 hr.units) (d_var 0) d_int) (d_str [116, 101, 120, 116]))
    (ss_one (s_ret (d_ix rfl (hu1 hr.units) (d_var 0) d_int)))
    ss_nil)
    (ss_cons (s_set 2 sc_laid_part.nd (d_call (G_field_text.close) (hr.mono (by omega)) tk rfl (a_cons (d_ix rfl (hu1 hr.units) (d_var 0) d_int) (a_cons (d_var 1) a_nil))))
    (ss_cons (s_if (t_eq rfl hr.units (d_ix rfl (hu1 hr.units) (d_var 0) d_int) (d_str [60]))
    (ss_one (s_ret (e_ljust1 rfl (d_var 2) (a_cons (d_ix rfl (hu1 hr.units) (d_var 0) d_int) a_nil))))
    ss_nil)
    (ss_cons (s_if (t_eq rfl hr.units (d_ix rfl (hu1 hr.units) (d_var 0) d_int) (d_str [62]))
    (ss_one (s_ret (e_rjust1 rfl (d_var 2) (a_cons (d_ix rfl (hu1 hr.units) (d_var 0) d_int) a_nil))))
    ss_nil)
    (ss_cons (s_if (t_eq rfl hr.units (d_ix rfl (hu1 hr.units) (d_var 0) d_int) (d_str [61]))
    (ss_one (s_ret (e_ljust1 rfl (d_slice false rfl (d_var 2) o_none (o_some (d_ix rfl (hu1 hr.units) (d_var 0) d_int))) (a_cons (d_ix rfl (hu1 hr.units) (d_var 0) d_int) a_nil))))
    ss_nil)
    (ss_one (s_ret (d_var 2))))))))
theorem ok_laid (T : Txt K mg A6 A4 A5 X3 X4 X5) (Fa : Facts (mkC K A6 A4 A5 X3 X4 X5)) (R : RawF K mg "laid" s_laid ["form", "record"]) (G_laid_part : GF P w K mg base (mkC K A6 A4 A5 X3 X4 X5) "laid_part" 3 2 fn_laid_part) (G_read_form : GF P w K mg base (mkC K A6 A4 A5 X3 X4 X5) "read_form" 2 1 fn_read_form) : GF P w K mg base (mkC K A6 A4 A5 X3 X4 X5) "laid" 4 2 fn_laid := by
  refine GF.mk' (k := 3) R sc_laid fun f cdv A outer s H E hr => ?_
  have tk := takes_cx (P := P) (w := w) (K := K) (mg := mg) (base := base) (N := ["form", "record", "part"]) (qual := "laid") (scope := defScope s_laid) (f := f) (cd := cdv) (A := A) (outer := outer) (s := s) (H := H) (E := E)
  have hp := passes_cx (P := P) (w := w) (K := K) (mg := mg) (base := base) (CX := L2.CX P w) (N := ["form", "record", "part"]) (qual := "laid") (scope := defScope s_laid) (f := f) (cd := cdv) (A := A) (outer := outer) (s := s) (H := H) (E := E)
  exact (ss_one (s_ret (e_join rfl (d_str []) (a_cons (d_lc false [("part", 2)] rfl sc_laid.nd (i_seq rfl (d_call (G_read_form.close) (hr.mono (by omega)) tk rfl (a_cons (d_var 0) a_nil))) (blkX (N := ["form", "record", "part"]) (sc := defScope s_laid) (by decide +kernel)) (by decide) (fun _ _ _ _ _ => (g_name 2 sc_laid.nd)) (fun _ _ _ _ _ => ts_nil) (fun _ _ _ _ _ => (d_call (G_laid_part.close) (hr.mono (by omega)) takes0 rfl (a_cons (d_var 2) (a_cons (d_var 1) a_nil))))) a_nil))))
theorem ok_is_under (T : Txt K mg A6 A4 A5 X3 X4 X5) (Fa : Facts (mkC K A6 A4 A5 X3 X4 X5)) (R : RawF K mg "is_under" s_is_under ["name", "other"])  : GF P w K mg base (mkC K A6 A4 A5 X3 X4 X5) "is_under" 1 2 fn_is_under := by
  refine GF.mk' (k := 0) R sc_is_under fun f cdv A outer s H E hr => ?_
  have tk := takes_cx (P := P) (w := w) (K := K) (mg := mg) (base := base) (N := ["name", "other"]) (qual := "is_under") (scope := defScope s_is_under) (f := f) (cd := cdv) (A := A) (outer := outer) (s := s) (H := H) (E := E)
  have hp := passes_cx (P := P) (w := w) (K := K) (mg := mg) (base := base) (CX := L2.CX P w) (N := ["name", "other"]) (qual := "is_under") (scope := defScope s_is_under) (f := f) (cd := cdv) (A := A) (outer := outer) (s := s) (H := H) (E := E)
  exact (ss_one (s_ret (d_or rfl (e_in rfl hr.units (d_var 1) (d_tup (a_cons (d_str []) (a_cons (d_var 0) a_nil)))) (d_one (e_startswith rfl (d_var 0) (a_cons (e_add false rfl (d_var 1) (d_str [46])) a_nil))))))
theorem ok_passes (T : Txt K mg A6 A4 A5 X3 X4 X5) (Fa : Facts (mkC K A6 A4 A5 X3 X4 X5)) (R : RawF K mg "passes" s_passes ["gate", "record"]) (n : Nat) (G_is_under : GF P w K mg base (mkC K A6 A4 A5 X3 X4 X5) "is_under" 1 2 fn_is_under) (R_passes : GF P w K mg base (mkC K A6 A4 A5 X3 X4 X5) "passes" (1 + n) 2 (fn_passes n)) : GF P w K mg base (mkC K A6 A4 A5 X3 X4 X5) "passes" (1 + n + 1) 2 (fn_passes (n + 1)) := by
  show GF P w K mg base (mkC K A6 A4 A5 X3 X4 X5) "passes" (1 + n + 1) 2 (runFn ["gate", "record", "word"].length (B_passes (fn_passes n)))
  refine GF.mk' (k := 1 + n) R sc_passes fun f cdv A outer s H E hr => ?_
  have tk := takes_cx (P := P) (w := w) (K := K) (mg := mg) (base := base) (N := ["gate", "record", "word"]) (qual := "passes") (scope := defScope s_passes) (f := f) (cd := cdv) (A := A) (outer := outer) (s := s) (H := H) (E := E)
  have hp := passes_cx (P := P) (w := w) (K := K) (mg := mg) (base := base) (CX := L2.CX P w) (N := ["gate", "record", "word"]) (qual := "passes") (scope := defScope s_passes) (f := f) (cd := cdv) (A := A) (outer := outer) (s := s) (H := H) (E := E)
  exact (ss_cons (s_set 2 sc_passes.nd (d_ix rfl (hu1 hr.units) (d_var 0) d_int))
    (ss_cons (s_if (t_in rfl hr.units (d_var 2) (d_tup (a_cons (d_str [121, 101, 115]) (a_cons (d_str [110, 111]) a_nil))))
    (ss_one (s_ret (e_eq rfl hr.units (d_var 2) (d_str [121, 101, 115]))))
    ss_nil)
    (ss_cons (s_if (t_eq rfl hr.units (d_var 2) (d_str [108, 101, 118, 101, 108]))
    (ss_one (s_ret (e_ge (d_ix rfl (hu1 hr.units) (d_var 1) d_int) (d_ix rfl (hu1 hr.units) (d_var 0) d_int))))
    ss_nil)
    (ss_cons (s_if (t_eq rfl hr.units (d_var 2) (d_str [117, 110, 100, 101, 114]))
    (ss_one (s_ret (d_call (G_is_under.close) (hr.mono (by omega)) tk rfl (a_cons (d_ix rfl (hu1 hr.units) (d_var 1) d_int) (a_cons (d_ix rfl (hu1 hr.units) (d_var 0) d_int) a_nil)))))
    ss_nil)
    (ss_cons (s_if (t_eq rfl hr.units (d_var 2) (d_str [104, 97, 115]))
    (ss_one (s_ret (e_in rfl hr.units (d_ix rfl (hu1 hr.units) (d_var 0) d_int) (d_ix rfl (hu1 hr.units) (d_var 1) d_int))))
    ss_nil)
    (ss_cons (s_if (t_eq rfl hr.units (d_var 2) (d_str [110, 111, 116]))
    (ss_one (s_ret (d_not rfl (d_call (R_passes.close) hr tk rfl (a_cons (d_ix rfl (hu1 hr.units) (d_var 0) d_int) (a_cons (d_var 1) a_nil))))))
    ss_nil)
    (ss_cons (s_if (t_eq rfl hr.units (d_var 2) (d_str [97, 110, 100]))
    (ss_one (s_ret (d_and rfl (d_call (R_passes.close) hr tk rfl (a_cons (d_ix rfl (hu1 hr.units) (d_var 0) d_int) (a_cons (d_var 1) a_nil))) (d_one (d_call (R_passes.close) hr tk rfl (a_cons (d_ix rfl (hu1 hr.units) (d_var 0) d_int) (a_cons (d_var 1) a_nil)))))))
    ss_nil)
    (ss_one (s_ret (d_or rfl (d_call (R_passes.close) hr tk rfl (a_cons (d_ix rfl (hu1 hr.units) (d_var 0) d_int) (a_cons (d_var 1) a_nil))) (d_one (d_call (R_passes.close) hr tk rfl (a_cons (d_ix rfl (hu1 hr.units) (d_var 0) d_int) (a_cons (d_var 1) a_nil))))))))))))))
theorem grp_ok_passes (T : Txt K mg A6 A4 A5 X3 X4 X5) (Fa : Facts (mkC K A6 A4 A5 X3 X4 X5)) (R_passes : RawF K mg "passes" s_passes ["gate", "record"]) (G_is_under : GF P w K mg base (mkC K A6 A4 A5 X3 X4 X5) "is_under" 1 2 fn_is_under) : ∀ n : Nat, GF P w K mg base (mkC K A6 A4 A5 X3 X4 X5) "passes" (1 + n) 2 (fn_passes n)
  | 0 => GF.bad R_passes
  | n + 1 => by
    have I_passes := grp_ok_passes T Fa R_passes G_is_under n
    exact ok_passes T Fa R_passes n G_is_under I_passes
theorem ok_Writer_take (T : Txt K mg A6 A4 A5 X3 X4 X5) (Fa : Facts (mkC K A6 A4 A5 X3 X4 X5)) (R : RawM K (mkC K A6 A4 A5 X3 X4 X5) 4 "take" "Writer.take" s_Writer_take ["self", "record"]) (G_laid : GF P w K mg base (mkC K A6 A4 A5 X3 X4 X5) "laid" 4 2 fn_laid) (G_passes : GF P w K mg base (mkC K A6 A4 A5 X3 X4 X5) "passes" 101 2 (fn_passes 100)) : GM P w K mg base (mkC K A6 A4 A5 X3 X4 X5) 4 "take" 102 2 fn_Writer_take := by
  refine GM.mk' (k := 101) R sc_Writer_take fun f cdv A outer s H E hr => ?_
  have tk := takes_cx (P := P) (w := w) (K := K) (mg := mg) (base := base) (N := ["self", "record"]) (qual := "Writer.take") (scope := defScope s_Writer_take) (f := f) (cd := cdv) (A := A) (outer := outer) (s := s) (H := H) (E := E)
  have hp := passes_cx (P := P) (w := w) (K := K) (mg := mg) (base := base) (CX := L2.CX P w) (N := ["self", "record"]) (qual := "Writer.take") (scope := defScope s_Writer_take) (f := f) (cd := cdv) (A := A) (outer := outer) (s := s) (H := H) (E := E)
  exact (ss_cons (s_if (DW.t (w_or (t_lt (d_ix rfl (hu1 hr.units) (d_var 1) d_int) (d_fld 13 rfl Fa (show 13 < 23 by decide) rfl (d_var 0))) (w_or1 (t_not (t_tru rfl (d_call (G_passes.close) (hr.mono (by omega)) tk rfl (a_cons (d_fld 14 rfl Fa (show 14 < 23 by decide) rfl (d_var 0)) (a_cons (d_var 1) a_nil))))))))
    (ss_one (s_ret d_bl))
    ss_nil)
    (ss_cons (s_expr (e_append rfl (d_fld 6 rfl Fa (show 6 < 23 by decide) rfl (d_var 0)) (a_cons (d_call (G_laid.close) (hr.mono (by omega)) tk rfl (a_cons (d_fld 15 rfl Fa (show 15 < 23 by decide) rfl (d_var 0)) (a_cons (d_var 1) a_nil))) a_nil)))
    (ss_one (s_ret d_bl))))
theorem ok_Hall_tell (T : Txt K mg A6 A4 A5 X3 X4 X5) (Fa : Facts (mkC K A6 A4 A5 X3 X4 X5)) (R : RawM K (mkC K A6 A4 A5 X3 X4 X5) 5 "tell" "Hall.tell" s_Hall_tell ["self", "record"]) (G_Hall_is_told : GM P w K mg base (mkC K A6 A4 A5 X3 X4 X5) 5 "is_told" 3 3 fn_Hall_is_told) (G_Hall_ways : GM P w K mg base (mkC K A6 A4 A5 X3 X4 X5) 5 "ways" 2 2 fn_Hall_ways) (G_Writer_take : GM P w K mg base (mkC K A6 A4 A5 X3 X4 X5) 4 "take" 102 2 fn_Writer_take) : GM P w K mg base (mkC K A6 A4 A5 X3 X4 X5) 5 "tell" 103 2 fn_Hall_tell := by
  refine GM.mk' (k := 102) R sc_Hall_tell fun f cdv A outer s H E hr => ?_
  have tk := takes_cx (P := P) (w := w) (K := K) (mg := mg) (base := base) (N := ["self", "record", "found", "name", "number", "writer"]) (qual := "Hall.tell") (scope := defScope s_Hall_tell) (f := f) (cd := cdv) (A := A) (outer := outer) (s := s) (H := H) (E := E)
  have hp := passes_cx (P := P) (w := w) (K := K) (mg := mg) (base := base) (CX := L2.CX P w) (N := ["self", "record", "found", "name", "number", "writer"]) (qual := "Hall.tell") (scope := defScope s_Hall_tell) (f := f) (cd := cdv) (A := A) (outer := outer) (s := s) (H := H) (E := E)
  exact (ss_cons (s_set 2 sc_Hall_tell.nd (d_tup a_nil))
    (ss_cons (s_if (t_tru rfl (d_meth 5 rfl Fa G_Hall_is_told (hr.mono (by omega)) tk nf_Hall_is_told (d_var 0) (a_cons (d_ix rfl (hu1 hr.units) (d_var 1) d_int) (a_cons (d_ix rfl (hu1 hr.units) (d_var 1) d_int) a_nil))))
    (ss_one (s_for hp rfl (i_seq rfl (d_meth 5 rfl Fa G_Hall_ways (hr.mono (by omega)) tk nf_Hall_ways (d_var 0) (a_cons (d_ix rfl (hu1 hr.units) (d_var 1) d_int) a_nil))) (g_name 3 sc_Hall_tell.nd)
    (ss_one (s_for hp rfl (i_seq rfl (e_listItems rfl (d_fld 18 rfl Fa (show 18 < 23 by decide) rfl (d_var 0)) rfl T.n_list)) (g_tup rfl rfl (gs_cons (g_name 4 sc_Hall_tell.nd) (gs_cons (g_name 5 sc_Hall_tell.nd) gs_nil)))
    (ss_one (s_if (DW.t (w_and (t_eq rfl hr.units (d_fld 12 rfl Fa (show 12 < 23 by decide) rfl (d_var 5)) (d_var 3)) (w_and1 (t_tru rfl (d_meth 4 rfl Fa G_Writer_take (hr.mono (by omega)) tk nf_Writer_take (d_var 5) (a_cons (d_var 1) a_nil))))))
    (ss_one (s_set 2 sc_Hall_tell.nd (e_add false rfl (d_var 2) (d_tup (a_cons (d_var 4) a_nil)))))
    ss_nil))))))
    ss_nil)
    (ss_one (s_ret (d_var 2)))))
theorem ok__law_due (T : Txt K mg A6 A4 A5 X3 X4 X5) (Fa : Facts (mkC K A6 A4 A5 X3 X4 X5)) (R : RawF K mg "_law_due" s__law_due ["_law_hall", "_law_writers", "_law_closed", "_law_record_here"]) (G_Hall_is_told : GM P w K mg base (mkC K A6 A4 A5 X3 X4 X5) 5 "is_told" 3 3 fn_Hall_is_told) (G_above : GF P w K mg base (mkC K A6 A4 A5 X3 X4 X5) "above" 1 1 fn_above) (G_passes : GF P w K mg base (mkC K A6 A4 A5 X3 X4 X5) "passes" 101 2 (fn_passes 100)) : GF P w K mg base (mkC K A6 A4 A5 X3 X4 X5) "_law_due" 102 4 fn__law_due := by
  refine GF.mk' (k := 101) R sc__law_due fun f cdv A outer s H E hr => ?_
  have tk := takes_cx (P := P) (w := w) (K := K) (mg := mg) (base := base) (N := ["_law_hall", "_law_writers", "_law_closed", "_law_record_here", "_law_got", "_law_name_here", "_law_number", "_law_at", "_law_least", "_law_gate_here", "_law_form"]) (qual := "_law_due") (scope := defScope s__law_due) (f := f) (cd := cdv) (A := A) (outer := outer) (s := s) (H := H) (E := E)
  have hp := passes_cx (P := P) (w := w) (K := K) (mg := mg) (base := base) (CX := L2.CX P w) (N := ["_law_hall", "_law_writers", "_law_closed", "_law_record_here", "_law_got", "_law_name_here", "_law_number", "_law_at", "_law_least", "_law_gate_here", "_law_form"]) (qual := "_law_due") (scope := defScope s__law_due) (f := f) (cd := cdv) (A := A) (outer := outer) (s := s) (H := H) (E := E)
  exact (ss_cons (s_if (t_not (t_tru rfl (d_meth 5 rfl Fa G_Hall_is_told (hr.mono (by omega)) tk nf_Hall_is_told (d_var 0) (a_cons (d_ix rfl (hu1 hr.units) (d_var 3) d_int) (a_cons (d_ix rfl (hu1 hr.units) (d_var 3) d_int) a_nil)))))
    (ss_one (s_ret (d_tup a_nil)))
    ss_nil)
    (ss_cons (s_set 4 sc__law_due.nd (d_tup a_nil))
    (ss_cons (s_for hp rfl (i_seq rfl (e_add false rfl (d_tup (a_cons (d_ix rfl (hu1 hr.units) (d_var 3) d_int) a_nil)) (d_call (G_above.close) (hr.mono (by omega)) tk rfl (a_cons (d_ix rfl (hu1 hr.units) (d_var 3) d_int) a_nil)))) (g_name 5 sc__law_due.nd)
    (ss_cons (s_for hp rfl (i_seq rfl (e_sorted false rfl rfl T.n_sorted rfl (a_cons (d_var 1) a_nil))) (g_name 6 sc__law_due.nd)
    (ss_cons (s_asg (d_ix rfl (hu1 hr.units) (d_var 1) (d_var 6)) (g_tup rfl rfl (gs_cons (g_name 7 sc__law_due.nd) (gs_cons (g_name 8 sc__law_due.nd) (gs_cons (g_name 9 sc__law_due.nd) (gs_cons (g_name 10 sc__law_due.nd) gs_nil))))))
    (ss_one (s_if (DW.t (w_and (t_eq rfl hr.units (d_var 7) (d_var 5)) (w_and (t_le (d_var 8) (d_ix rfl (hu1 hr.units) (d_var 3) d_int)) (w_and1 (t_tru rfl (d_call (G_passes.close) (hr.mono (by omega)) tk rfl (a_cons (d_var 9) (a_cons (d_var 3) a_nil))))))))
    (ss_one (s_set 4 sc__law_due.nd (e_add false rfl (d_var 4) (d_tup (a_cons (d_var 6) a_nil)))))
    ss_nil))))
    (ss_one (s_if (t_tru rfl (e_get2 (hu1 hr.units) (d_var 2) (d_var 5) d_bl))
    (ss_one (s_ret (d_var 4)))
    ss_nil))))
    (ss_one (s_ret (d_var 4))))))
theorem ok__law_told_holds (T : Txt K mg A6 A4 A5 X3 X4 X5) (Fa : Facts (mkC K A6 A4 A5 X3 X4 X5)) (R : RawF K mg "_law_told_holds" s__law_told_holds ["_law_hall", "_law_writers", "_law_closed", "_law_record_here"]) (G_Hall_rows : GM P w K mg base (mkC K A6 A4 A5 X3 X4 X5) 5 "rows" 2 2 fn_Hall_rows) (G_Hall_tell : GM P w K mg base (mkC K A6 A4 A5 X3 X4 X5) 5 "tell" 103 2 fn_Hall_tell) (G__law_due : GF P w K mg base (mkC K A6 A4 A5 X3 X4 X5) "_law_due" 102 4 fn__law_due) (G_laid : GF P w K mg base (mkC K A6 A4 A5 X3 X4 X5) "laid" 4 2 fn_laid) : GF P w K mg base (mkC K A6 A4 A5 X3 X4 X5) "_law_told_holds" 104 4 fn__law_told_holds := by
  refine GF.mk' (k := 103) R sc__law_told_holds fun f cdv A outer s H E hr => ?_
  have tk := takes_cx (P := P) (w := w) (K := K) (mg := mg) (base := base) (N := ["_law_hall", "_law_writers", "_law_closed", "_law_record_here", "_law_rows", "_law_number", "_law_due_here", "_law_more"]) (qual := "_law_told_holds") (scope := defScope s__law_told_holds) (f := f) (cd := cdv) (A := A) (outer := outer) (s := s) (H := H) (E := E)
  have hp := passes_cx (P := P) (w := w) (K := K) (mg := mg) (base := base) (CX := L2.CX P w) (N := ["_law_hall", "_law_writers", "_law_closed", "_law_record_here", "_law_rows", "_law_number", "_law_due_here", "_law_more"]) (qual := "_law_told_holds") (scope := defScope s__law_told_holds) (f := f) (cd := cdv) (A := A) (outer := outer) (s := s) (H := H) (E := E)
  exact (ss_cons (s_set 4 sc__law_told_holds.nd (e_dict rfl rfl T.n_dict rfl (a_cons (d_lcK false [("_law_number", 5)] rfl sc__law_told_holds.nd (d_var 1) (blkX (N := ["_law_hall", "_law_writers", "_law_closed", "_law_record_here", "_law_rows", "_law_number", "_law_due_here", "_law_more"]) (sc := defScope s__law_told_holds) (by decide +kernel)) (by decide) (fun _ _ _ _ _ => (g_name 5 sc__law_told_holds.nd)) (fun _ _ _ _ _ => ts_nil) (fun _ _ _ _ _ => (d_tup (a_cons (d_var 5) (a_cons (d_meth 5 rfl Fa G_Hall_rows (hr.mono (by omega)) takes0 nf_Hall_rows (d_var 0) (a_cons (d_var 5) a_nil)) a_nil))))) a_nil)))
    (ss_cons (s_set 6 sc__law_told_holds.nd (d_call G__law_due (hr.mono (by omega)) tk rfl (a_cons (d_var 0) (a_cons (d_var 1) (a_cons (d_var 2) (a_cons (d_var 3) a_nil))))))
    (ss_cons (s_if (t_ne rfl hr.units (d_meth 5 rfl Fa G_Hall_tell (hr.mono (by omega)) tk nf_Hall_tell (d_var 0) (a_cons (d_var 3) a_nil)) (d_var 6))
    (ss_one (s_ret d_bl))
    ss_nil)
    (ss_cons (s_forKy hp rfl (d_var 1) (g_name 5 sc__law_told_holds.nd)
    (ss_cons (s_set 7 sc__law_told_holds.nd (d_ifExp (t_in rfl hr.units (d_var 5) (d_var 6)) (d_tup (a_cons (d_call (G_laid.close) (hr.mono (by omega)) tk rfl (a_cons (d_ix rfl (hu1 hr.units) (d_ixL rfl (hu1 hr.units) (d_var 1) (d_var 5)) d_int) (a_cons (d_var 3) a_nil))) a_nil)) (d_tup a_nil)))
    (ss_one (s_if (t_ne rfl hr.units (d_meth 5 rfl Fa G_Hall_rows (hr.mono (by omega)) tk nf_Hall_rows (d_var 0) (a_cons (d_var 5) a_nil)) (e_add false rfl (d_ix rfl (hu1 hr.units) (d_var 4) (d_var 5)) (d_var 7)))
    (ss_one (s_ret d_bl))
    ss_nil))))
    (ss_one (s_ret d_bl))))))
theorem ok_strength (T : Txt K mg A6 A4 A5 X3 X4 X5) (Fa : Facts (mkC K A6 A4 A5 X3 X4 X5)) (R : RawF K mg "strength" s_strength ["gate"])  : GF P w K mg base (mkC K A6 A4 A5 X3 X4 X5) "strength" 1 1 fn_strength := by
  refine GF.mk' (k := 0) R sc_strength fun f cdv A outer s H E hr => ?_
  have tk := takes_cx (P := P) (w := w) (K := K) (mg := mg) (base := base) (N := ["gate"]) (qual := "strength") (scope := defScope s_strength) (f := f) (cd := cdv) (A := A) (outer := outer) (s := s) (H := H) (E := E)
  have hp := passes_cx (P := P) (w := w) (K := K) (mg := mg) (base := base) (CX := L2.CX P w) (N := ["gate"]) (qual := "strength") (scope := defScope s_strength) (f := f) (cd := cdv) (A := A) (outer := outer) (s := s) (H := H) (E := E)
  exact (ss_cons (s_if (t_eq rfl hr.units (d_ix rfl (hu1 hr.units) (d_var 0) d_int) (d_str [111, 114]))
    (ss_one (s_ret d_int))
    ss_nil)
    (ss_cons (s_if (t_eq rfl hr.units (d_ix rfl (hu1 hr.units) (d_var 0) d_int) (d_str [97, 110, 100]))
    (ss_one (s_ret d_int))
    ss_nil)
    (ss_one (s_ret d_int))))
theorem ok_shown_within (T : Txt K mg A6 A4 A5 X3 X4 X5) (Fa : Facts (mkC K A6 A4 A5 X3 X4 X5)) (R : RawF K mg "shown_within" s_shown_within ["gate", "least"]) (n : Nat) (G_strength : GF P w K mg base (mkC K A6 A4 A5 X3 X4 X5) "strength" 1 1 fn_strength) (R_shown : GF P w K mg base (mkC K A6 A4 A5 X3 X4 X5) "shown" (1 + n) 1 (fn_shown n)) : GF P w K mg base (mkC K A6 A4 A5 X3 X4 X5) "shown_within" (1 + n + 1) 2 (fn_shown_within (n + 1)) := by
  show GF P w K mg base (mkC K A6 A4 A5 X3 X4 X5) "shown_within" (1 + n + 1) 2 (runFn ["gate", "least"].length (B_shown_within (fn_shown_within n) (fn_shown n)))
  refine GF.mk' (k := 1 + n) R sc_shown_within fun f cdv A outer s H E hr => ?_
  have tk := takes_cx (P := P) (w := w) (K := K) (mg := mg) (base := base) (N := ["gate", "least"]) (qual := "shown_within") (scope := defScope s_shown_within) (f := f) (cd := cdv) (A := A) (outer := outer) (s := s) (H := H) (E := E)
  have hp := passes_cx (P := P) (w := w) (K := K) (mg := mg) (base := base) (CX := L2.CX P w) (N := ["gate", "least"]) (qual := "shown_within") (scope := defScope s_shown_within) (f := f) (cd := cdv) (A := A) (outer := outer) (s := s) (H := H) (E := E)
  exact (ss_cons (s_if (t_lt (d_call (G_strength.close) (hr.mono (by omega)) tk rfl (a_cons (d_var 0) a_nil)) (d_var 1))
    (ss_one (s_ret (d_join (j_cons (d_str [40]) (j_cons (j_val (d_call (R_shown.close) hr tk rfl (a_cons (d_var 0) a_nil))) (j_cons (d_str [41]) j_nil))))))
    ss_nil)
    (ss_one (s_ret (d_call (R_shown.close) hr tk rfl (a_cons (d_var 0) a_nil)))))
theorem ok_shown (T : Txt K mg A6 A4 A5 X3 X4 X5) (Fa : Facts (mkC K A6 A4 A5 X3 X4 X5)) (R : RawF K mg "shown" s_shown ["gate"]) (n : Nat) (G_strength : GF P w K mg base (mkC K A6 A4 A5 X3 X4 X5) "strength" 1 1 fn_strength) (R_shown_within : GF P w K mg base (mkC K A6 A4 A5 X3 X4 X5) "shown_within" (1 + n) 2 (fn_shown_within n)) : GF P w K mg base (mkC K A6 A4 A5 X3 X4 X5) "shown" (1 + n + 1) 1 (fn_shown (n + 1)) := by
  show GF P w K mg base (mkC K A6 A4 A5 X3 X4 X5) "shown" (1 + n + 1) 1 (runFn ["gate", "word", "here"].length (B_shown (fn_shown_within n) (fn_shown n)))
  refine GF.mk' (k := 1 + n) R sc_shown fun f cdv A outer s H E hr => ?_
  have tk := takes_cx (P := P) (w := w) (K := K) (mg := mg) (base := base) (N := ["gate", "word", "here"]) (qual := "shown") (scope := defScope s_shown) (f := f) (cd := cdv) (A := A) (outer := outer) (s := s) (H := H) (E := E)
  have hp := passes_cx (P := P) (w := w) (K := K) (mg := mg) (base := base) (CX := L2.CX P w) (N := ["gate", "word", "here"]) (qual := "shown") (scope := defScope s_shown) (f := f) (cd := cdv) (A := A) (outer := outer) (s := s) (H := H) (E := E)
  exact (ss_cons (s_set 1 sc_shown.nd (d_ix rfl (hu1 hr.units) (d_var 0) d_int))
    (ss_cons (s_if (t_in rfl hr.units (d_var 1) (d_tup (a_cons (d_str [121, 101, 115]) (a_cons (d_str [110, 111]) a_nil))))
    (ss_one (s_ret (d_var 1)))
    ss_nil)
    (ss_cons (s_if (t_eq rfl hr.units (d_var 1) (d_str [108, 101, 118, 101, 108]))
    (ss_one (s_ret (d_join (j_cons (d_str [108, 101, 118, 101, 108, 32]) (j_cons (j_val (d_ix rfl (hu1 hr.units) (d_var 0) d_int)) j_nil)))))
    ss_nil)
    (ss_cons (s_if (t_eq rfl hr.units (d_var 1) (d_str [117, 110, 100, 101, 114]))
    (ss_one (s_ret (e_add false rfl (d_str [117, 110, 100, 101, 114, 32]) (d_or rfl (d_ix rfl (hu1 hr.units) (d_var 0) d_int) (d_one (d_str [42]))))))
    ss_nil)
    (ss_cons (s_if (t_eq rfl hr.units (d_var 1) (d_str [104, 97, 115]))
    (ss_one (s_ret (d_join (j_cons (d_str [104, 97, 115, 32, 39]) (j_cons (j_val (d_ix rfl (hu1 hr.units) (d_var 0) d_int)) (j_cons (d_str [39]) j_nil))))))
    ss_nil)
    (ss_cons (s_if (t_eq rfl hr.units (d_var 1) (d_str [110, 111, 116]))
    (ss_one (s_ret (d_join (j_cons (d_str [110, 111, 116, 32]) (j_cons (j_val (d_call (R_shown_within.close) hr tk rfl (a_cons (d_ix rfl (hu1 hr.units) (d_var 0) d_int) (a_cons d_int a_nil)))) j_nil)))))
    ss_nil)
    (ss_cons (s_set 2 sc_shown.nd (d_call (G_strength.close) (hr.mono (by omega)) tk rfl (a_cons (d_var 0) a_nil)))
    (ss_one (s_ret (d_join (j_cons (j_val (d_call (R_shown_within.close) hr tk rfl (a_cons (d_ix rfl (hu1 hr.units) (d_var 0) d_int) (a_cons (d_var 2) a_nil)))) (j_cons (d_str [32]) (j_cons (j_val (d_var 1)) (j_cons (d_str [32]) (j_cons (j_val (d_call (R_shown_within.close) hr tk rfl (a_cons (d_ix rfl (hu1 hr.units) (d_var 0) d_int) (a_cons (e_add false rfl (d_var 2) d_int) a_nil)))) j_nil)))))))))))))))
theorem grp_ok_shown_within (T : Txt K mg A6 A4 A5 X3 X4 X5) (Fa : Facts (mkC K A6 A4 A5 X3 X4 X5)) (R_shown_within : RawF K mg "shown_within" s_shown_within ["gate", "least"]) (R_shown : RawF K mg "shown" s_shown ["gate"]) (G_strength : GF P w K mg base (mkC K A6 A4 A5 X3 X4 X5) "strength" 1 1 fn_strength) : ∀ n : Nat, GF P w K mg base (mkC K A6 A4 A5 X3 X4 X5) "shown_within" (1 + n) 2 (fn_shown_within n) ∧ GF P w K mg base (mkC K A6 A4 A5 X3 X4 X5) "shown" (1 + n) 1 (fn_shown n)
  | 0 => ⟨GF.bad R_shown_within, GF.bad R_shown⟩
  | n + 1 => by
    have ⟨I_shown_within, I_shown⟩ := grp_ok_shown_within T Fa R_shown_within R_shown G_strength n
    exact ⟨ok_shown_within T Fa R_shown_within n G_strength I_shown, ok_shown T Fa R_shown n G_strength I_shown_within⟩
theorem ok_law {f : Addr} {fd : FuncData} (T : Txt K mg A6 A4 A5 X3 X4 X5) (Fa : Facts (mkC K A6 A4 A5 X3 X4 X5)) (F : Fun K "law" "law" s_law f fd) (G_Hall_init : GK P w K mg base (mkC K A6 A4 A5 X3 X4 X5) "Hall" 5 1 1 fn_Hall_init) (G_Hall_add_writer : GM P w K mg base (mkC K A6 A4 A5 X3 X4 X5) 5 "add_writer" 104 5 fn_Hall_add_writer) (G_Hall_close : GM P w K mg base (mkC K A6 A4 A5 X3 X4 X5) 5 "close" 1 3 fn_Hall_close) (G_Hall_rows : GM P w K mg base (mkC K A6 A4 A5 X3 X4 X5) 5 "rows" 2 2 fn_Hall_rows) (G_Hall_set_level : GM P w K mg base (mkC K A6 A4 A5 X3 X4 X5) 5 "set_level" 1 3 fn_Hall_set_level) (G_Hall_take_away : GM P w K mg base (mkC K A6 A4 A5 X3 X4 X5) 5 "take_away" 2 2 fn_Hall_take_away) (G__law_draw : GF P w K mg base (mkC K A6 A4 A5 X3 X4 X5) "_law_draw" 1 3 fn__law_draw) (G__law_gate : GF P w K mg base (mkC K A6 A4 A5 X3 X4 X5) "_law_gate" 103 3 (fn__law_gate 100)) (G__law_name : GF P w K mg base (mkC K A6 A4 A5 X3 X4 X5) "_law_name" 3 2 fn__law_name) (G__law_pick : GF P w K mg base (mkC K A6 A4 A5 X3 X4 X5) "_law_pick" 2 3 fn__law_pick) (G__law_record : GF P w K mg base (mkC K A6 A4 A5 X3 X4 X5) "_law_record" 4 3 fn__law_record) (G__law_refused : GF P w K mg base (mkC K A6 A4 A5 X3 X4 X5) "_law_refused" 105 3 fn__law_refused) (G__law_told_holds : GF P w K mg base (mkC K A6 A4 A5 X3 X4 X5) "_law_told_holds" 104 4 fn__law_told_holds) (G_shown : GF P w K mg base (mkC K A6 A4 A5 X3 X4 X5) "shown" 101 1 (fn_shown 100)) : FnOk P w K mg base (L2.CX P w) 106 f fd ["_law_script"] (spD (mkC K A6 A4 A5 X3 X4 X5) 1 fn_law) := by
  refine fn_okD (k := 105) F sc_law fun cdv A outer s H E hr => ?_
  have tk := takes_cx (P := P) (w := w) (K := K) (mg := mg) (base := base) (N := ["_law_script", "_law_town", "_law_k", "_law_one", "_law_other", "_law_writers", "_law_closed", "_law_many", "_law_turn", "_law_name_here", "_law_word", "_law_gate_here", "_law_least", "_law_row", "_law_hall", "_law_number", "_law_record_here"]) (qual := "law") (scope := defScope s_law) (f := f) (cd := cdv) (A := A) (outer := outer) (s := s) (H := H) (E := E)
  have hp := passes_cx (P := P) (w := w) (K := K) (mg := mg) (base := base) (CX := L2.CX P w) (N := ["_law_script", "_law_town", "_law_k", "_law_one", "_law_other", "_law_writers", "_law_closed", "_law_many", "_law_turn", "_law_name_here", "_law_word", "_law_gate_here", "_law_least", "_law_row", "_law_hall", "_law_number", "_law_record_here"]) (qual := "law") (scope := defScope s_law) (f := f) (cd := cdv) (A := A) (outer := outer) (s := s) (H := H) (E := E)
  exact (ss_cons (s_set 1 sc_law.nd (d_lst true a_nil))
    (ss_cons (s_for hp rfl (i_range1 rfl T.n_range (a_cons d_int a_nil)) (g_name 2 sc_law.nd)
    (ss_cons (s_asg (d_tup (a_cons (d_make0 G_Hall_init (hr.mono (by omega)) tk rfl) (a_cons (d_make0 G_Hall_init (hr.mono (by omega)) tk rfl) (a_cons d_dict0 (a_cons d_dict0 (a_cons d_int a_nil)))))) (g_tup rfl rfl (gs_cons (g_name 3 sc_law.nd) (gs_cons (g_name 4 sc_law.nd) (gs_cons (g_name 5 sc_law.nd) (gs_cons (g_name 6 sc_law.nd) (gs_cons (g_name 7 sc_law.nd) gs_nil)))))))
    (ss_one (s_for hp rfl (i_range1 rfl T.n_range (a_cons d_int a_nil)) (g_name 8 sc_law.nd)
    (ss_cons (s_asg (d_tup (a_cons (d_call G__law_name (hr.mono (by omega)) tk rfl (a_cons (d_var 0) (a_cons (d_var 1) a_nil))) (a_cons (d_call G__law_draw (hr.mono (by omega)) tk rfl (a_cons (d_var 0) (a_cons (d_var 1) (a_cons d_int a_nil)))) a_nil))) (g_tup rfl rfl (gs_cons (g_name 9 sc_law.nd) (gs_cons (g_name 10 sc_law.nd) gs_nil))))
    (ss_cons (s_if (t_not (t_tru rfl (d_call G__law_refused (hr.mono (by omega)) tk rfl (a_cons (d_var 4) (a_cons (d_var 9) (a_cons (e_listK false rfl rfl T.n_list rfl (a_cons (d_var 5) a_nil)) a_nil))))))
    (ss_one (s_ret d_bl))
    ss_nil)
    (ss_cons (s_if (t_lt (d_var 10) d_int)
    (ss_cons (s_set 11 sc_law.nd (d_call G__law_pick (hr.mono (by omega)) tk rfl (a_cons (d_var 0) (a_cons (d_var 1) (a_cons (d_lst false (a_cons (d_tup (a_cons (d_str [121, 101, 115]) a_nil)) (a_cons (d_call G__law_gate (hr.mono (by omega)) tk rfl (a_cons (d_var 0) (a_cons (d_var 1) (a_cons d_int a_nil)))) a_nil))) a_nil)))))
    (ss_cons (s_set 12 sc_law.nd (d_call G__law_pick (hr.mono (by omega)) tk rfl (a_cons (d_var 0) (a_cons (d_var 1) (a_cons (d_lst false (a_cons d_int (a_cons (d_call G__law_draw (hr.mono (by omega)) tk rfl (a_cons (d_var 0) (a_cons (d_var 1) (a_cons d_int a_nil)))) a_nil))) a_nil)))))
    (ss_cons (s_asg (d_tup (a_cons (e_add false rfl (d_var 7) d_int) (a_cons (d_tup (a_cons (d_var 9) (a_cons (d_var 12) (a_cons (d_var 11) (a_cons (d_str [123, 109, 111, 109, 101, 110, 116, 125, 32, 123, 119, 111, 114, 100, 115, 61, 57, 125]) a_nil))))) a_nil))) (g_tup rfl rfl (gs_cons (g_name 7 sc_law.nd) (gs_cons (g_name 13 sc_law.nd) gs_nil))))
    (ss_cons (s_if (t_ne rfl hr.units (d_lc false [("_law_hall", 14)] rfl sc_law.nd (i_seq rfl (d_tup (a_cons (d_var 3) (a_cons (d_var 4) a_nil)))) (blkX (N := ["_law_script", "_law_town", "_law_k", "_law_one", "_law_other", "_law_writers", "_law_closed", "_law_many", "_law_turn", "_law_name_here", "_law_word", "_law_gate_here", "_law_least", "_law_row", "_law_hall", "_law_number", "_law_record_here"]) (sc := defScope s_law) (by decide +kernel)) (by decide) (fun _ _ _ _ _ => (g_name 14 sc_law.nd)) (fun _ _ _ _ _ => ts_nil) (fun _ _ _ _ _ => (d_meth 5 rfl Fa G_Hall_add_writer (hr.mono (by omega)) takes0 nf_Hall_add_writer (d_var 14) (a_cons (d_var 9) (a_cons (d_var 12) (a_cons (d_call (G_shown.close) (hr.mono (by omega)) takes0 rfl (a_cons (d_var 11) a_nil)) (a_cons (d_ix rfl (hu1 hr.units) (d_var 13) d_int) a_nil))))))) (d_lst false (a_cons (d_var 7) (a_cons (d_var 7) a_nil))))
    (ss_one (s_ret d_bl))
    ss_nil)
    (ss_one (s_asg (d_var 13) (g_sub (W := fun cv dx _ H' => E cv dx H') (hu1 hr.units) (d_var 5) (d_var 7))))))))
    (ss_one (s_if (DW.t (w_and (t_eq rfl hr.units (d_var 10) d_int) (w_and (t_tru rfl (d_var 5)) (w_and1 (t_tru rfl (d_call G__law_draw (hr.mono (by omega)) tk rfl (a_cons (d_var 0) (a_cons (d_var 1) (a_cons d_int a_nil)))))))))
    (ss_cons (s_set 15 sc_law.nd (d_call G__law_pick (hr.mono (by omega)) tk rfl (a_cons (d_var 0) (a_cons (d_var 1) (a_cons (e_sorted false rfl rfl T.n_sorted rfl (a_cons (d_var 5) a_nil)) a_nil)))))
    (ss_cons (s_expr (e_dpop (d_var 5) (d_var 15)))
    (ss_cons (s_expr (d_meth 5 rfl Fa G_Hall_take_away (hr.mono (by omega)) tk nf_Hall_take_away (d_var 3) (a_cons (d_var 15) a_nil)))
    (ss_one (s_expr (d_meth 5 rfl Fa G_Hall_take_away (hr.mono (by omega)) tk nf_Hall_take_away (d_var 4) (a_cons (d_var 15) a_nil)))))))
    (ss_one (s_if (t_eq rfl hr.units (d_var 10) d_int)
    (ss_cons (s_asg (e_eq rfl hr.units (d_call G__law_draw (hr.mono (by omega)) tk rfl (a_cons (d_var 0) (a_cons (d_var 1) (a_cons d_int a_nil)))) d_int) (g_sub (W := fun cv dx _ H' => E cv dx H') (hu1 hr.units) (d_var 6) (d_var 9)))
    (ss_cons (s_expr (d_meth 5 rfl Fa G_Hall_close (hr.mono (by omega)) tk nf_Hall_close (d_var 3) (a_cons (d_var 9) (a_cons (d_ix rfl (hu1 hr.units) (d_var 6) (d_var 9)) a_nil))))
    (ss_one (s_expr (d_meth 5 rfl Fa G_Hall_close (hr.mono (by omega)) tk nf_Hall_close (d_var 4) (a_cons (d_var 9) (a_cons (d_ix rfl (hu1 hr.units) (d_var 6) (d_var 9)) a_nil)))))))
    (ss_one (s_if (t_eq rfl hr.units (d_var 10) d_int)
    (ss_cons (s_expr (d_meth 5 rfl Fa G_Hall_set_level (hr.mono (by omega)) tk nf_Hall_set_level (d_var 3) (a_cons (d_var 9) (a_cons (d_var 8) a_nil))))
    (ss_one (s_expr (d_meth 5 rfl Fa G_Hall_set_level (hr.mono (by omega)) tk nf_Hall_set_level (d_var 4) (a_cons (d_var 9) (a_cons (d_var 8) a_nil))))))
    ss_nil)))))))
    (ss_cons (s_set 16 sc_law.nd (d_call G__law_record (hr.mono (by omega)) tk rfl (a_cons (d_var 0) (a_cons (d_var 1) (a_cons (d_var 8) a_nil)))))
    (ss_cons (s_if (DW.t (w_or (t_not (t_tru rfl (d_call G__law_told_holds (hr.mono (by omega)) tk rfl (a_cons (d_var 3) (a_cons (d_var 5) (a_cons (d_var 6) (a_cons (d_var 16) a_nil))))))) (w_or1 (t_not (t_tru rfl (d_call G__law_told_holds (hr.mono (by omega)) tk rfl (a_cons (d_var 4) (a_cons (d_var 5) (a_cons (d_var 6) (a_cons (d_var 16) a_nil))))))))))
    (ss_one (s_ret d_bl))
    ss_nil)
    (ss_one (s_if (t_tru rfl (e_any rfl rfl T.n_any rfl (a_cons (d_lcK false [("_law_number", 15)] rfl sc_law.nd (d_var 5) (blkX (N := ["_law_script", "_law_town", "_law_k", "_law_one", "_law_other", "_law_writers", "_law_closed", "_law_many", "_law_turn", "_law_name_here", "_law_word", "_law_gate_here", "_law_least", "_law_row", "_law_hall", "_law_number", "_law_record_here"]) (sc := defScope s_law) (by decide +kernel)) (by decide) (fun _ _ _ _ _ => (g_name 15 sc_law.nd)) (fun _ _ _ _ _ => ts_nil) (fun _ _ _ _ _ => (e_ne rfl hr.units (d_meth 5 rfl Fa G_Hall_rows (hr.mono (by omega)) takes0 nf_Hall_rows (d_var 3) (a_cons (d_var 15) a_nil)) (d_meth 5 rfl Fa G_Hall_rows (hr.mono (by omega)) takes0 nf_Hall_rows (d_var 4) (a_cons (d_var 15) a_nil))))) a_nil)))
    (ss_one (s_ret d_bl))
    ss_nil)))))))))))
    (ss_one (s_ret d_bl))))
theorem ok_all {f : Addr} {fd : FuncData} (T : Txt K mg A6 A4 A5 X3 X4 X5) (Fa : Facts (mkC K A6 A4 A5 X3 X4 X5)) (R_Hall_init : RawK K mg (mkC K A6 A4 A5 X3 X4 X5) "Hall" 5 "Hall.__init__" s_Hall_init ["self"]) (R_Writer_init : RawK K mg (mkC K A6 A4 A5 X3 X4 X5) "Writer" 4 "Writer.__init__" s_Writer_init ["self", "name", "least", "gate", "form"]) (R_read_field : RawF K mg "read_field" s_read_field ["text"]) (R_with_text : RawF K mg "with_text" s_with_text ["parts", "text"]) (R_read_form : RawF K mg "read_form" s_read_form ["text"]) (R_tokens : RawF K mg "tokens" s_tokens ["text"]) (R_Reader_init : RawK K mg (mkC K A6 A4 A5 X3 X4 X5) "Reader" 6 "Reader.__init__" s_Reader_init ["self", "text"]) (R_Reader_next_word : RawM K (mkC K A6 A4 A5 X3 X4 X5) 6 "next_word" "Reader.next_word" s_Reader_next_word ["self"]) (R_Reader_fail : RawM K (mkC K A6 A4 A5 X3 X4 X5) 6 "fail" "Reader.fail" s_Reader_fail ["self"]) (R_Reader_pass_word : RawM K (mkC K A6 A4 A5 X3 X4 X5) 6 "pass_word" "Reader.pass_word" s_Reader_pass_word ["self"]) (R_is_name : RawF K mg "is_name" s_is_name ["thing"]) (R_Reader_asked : RawM K (mkC K A6 A4 A5 X3 X4 X5) 6 "asked" "Reader.asked" s_Reader_asked ["self", "word"]) (R_Reader_any_of : RawM K (mkC K A6 A4 A5 X3 X4 X5) 6 "any_of" "Reader.any_of" s_Reader_any_of ["self"]) (R_Reader_all_of : RawM K (mkC K A6 A4 A5 X3 X4 X5) 6 "all_of" "Reader.all_of" s_Reader_all_of ["self"]) (R_Reader_one : RawM K (mkC K A6 A4 A5 X3 X4 X5) 6 "one" "Reader.one" s_Reader_one ["self"]) (R_read_gate : RawF K mg "read_gate" s_read_gate ["text"]) (R_Hall_add_writer : RawM K (mkC K A6 A4 A5 X3 X4 X5) 5 "add_writer" "Hall.add_writer" s_Hall_add_writer ["self", "name", "least", "gate", "form"]) (R_Hall_close : RawM K (mkC K A6 A4 A5 X3 X4 X5) 5 "close" "Hall.close" s_Hall_close ["self", "name", "closed"]) (R_Hall_writer_at : RawM K (mkC K A6 A4 A5 X3 X4 X5) 5 "writer_at" "Hall.writer_at" s_Hall_writer_at ["self", "number"]) (R_Hall_rows : RawM K (mkC K A6 A4 A5 X3 X4 X5) 5 "rows" "Hall.rows" s_Hall_rows ["self", "number"]) (R_Hall_set_level : RawM K (mkC K A6 A4 A5 X3 X4 X5) 5 "set_level" "Hall.set_level" s_Hall_set_level ["self", "name", "level"]) (R_Hall_take_away : RawM K (mkC K A6 A4 A5 X3 X4 X5) 5 "take_away" "Hall.take_away" s_Hall_take_away ["self", "number"]) (R__law_draw : RawF K mg "_law_draw" s__law_draw ["_law_script", "_law_town", "_law_many"]) (R__law_pick : RawF K mg "_law_pick" s__law_pick ["_law_script", "_law_town", "_law_some"]) (R__law_name : RawF K mg "_law_name" s__law_name ["_law_script", "_law_town"]) (R__law_gate : RawF K mg "_law_gate" s__law_gate ["_law_script", "_law_town", "_law_deep"]) (R__law_record : RawF K mg "_law_record" s__law_record ["_law_script", "_law_town", "_law_moment"]) (R__law_refused : RawF K mg "_law_refused" s__law_refused ["_law_hall", "_law_name_here", "_law_numbers"]) (R_above : RawF K mg "above" s_above ["name"]) (R_Hall_level_of : RawM K (mkC K A6 A4 A5 X3 X4 X5) 5 "level_of" "Hall.level_of" s_Hall_level_of ["self", "name"]) (R_Hall_is_told : RawM K (mkC K A6 A4 A5 X3 X4 X5) 5 "is_told" "Hall.is_told" s_Hall_is_told ["self", "name", "level"]) (R_Hall_ways : RawM K (mkC K A6 A4 A5 X3 X4 X5) 5 "ways" "Hall.ways" s_Hall_ways ["self", "name"]) (R_level_word : RawF K mg "level_word" s_level_word ["level"]) (R_field_text : RawF K mg "field_text" s_field_text ["word", "record"]) (R_laid_part : RawF K mg "laid_part" s_laid_part ["part", "record"]) (R_laid : RawF K mg "laid" s_laid ["form", "record"]) (R_is_under : RawF K mg "is_under" s_is_under ["name", "other"]) (R_passes : RawF K mg "passes" s_passes ["gate", "record"]) (R_Writer_take : RawM K (mkC K A6 A4 A5 X3 X4 X5) 4 "take" "Writer.take" s_Writer_take ["self", "record"]) (R_Hall_tell : RawM K (mkC K A6 A4 A5 X3 X4 X5) 5 "tell" "Hall.tell" s_Hall_tell ["self", "record"]) (R__law_due : RawF K mg "_law_due" s__law_due ["_law_hall", "_law_writers", "_law_closed", "_law_record_here"]) (R__law_told_holds : RawF K mg "_law_told_holds" s__law_told_holds ["_law_hall", "_law_writers", "_law_closed", "_law_record_here"]) (R_strength : RawF K mg "strength" s_strength ["gate"]) (R_shown_within : RawF K mg "shown_within" s_shown_within ["gate", "least"]) (R_shown : RawF K mg "shown" s_shown ["gate"]) (F : Fun K "law" "law" s_law f fd) : FnOk P w K mg base (L2.CX P w) 106 f fd ["_law_script"] (spD (mkC K A6 A4 A5 X3 X4 X5) 1 fn_law) := by
  have G_Hall_init : GK P w K mg base (mkC K A6 A4 A5 X3 X4 X5) "Hall" 5 1 1 fn_Hall_init := ok_Hall_init T Fa R_Hall_init 
  have G_Writer_init : GK P w K mg base (mkC K A6 A4 A5 X3 X4 X5) "Writer" 4 1 5 fn_Writer_init := ok_Writer_init T Fa R_Writer_init 
  have G_read_field : GF P w K mg base (mkC K A6 A4 A5 X3 X4 X5) "read_field" 1 1 fn_read_field := ok_read_field T Fa R_read_field 
  have G_with_text : GF P w K mg base (mkC K A6 A4 A5 X3 X4 X5) "with_text" 1 2 fn_with_text := ok_with_text T Fa R_with_text 
  have G_read_form : GF P w K mg base (mkC K A6 A4 A5 X3 X4 X5) "read_form" 2 1 fn_read_form := ok_read_form T Fa R_read_form G_read_field G_with_text
  have G_tokens : GF P w K mg base (mkC K A6 A4 A5 X3 X4 X5) "tokens" 1 1 fn_tokens := ok_tokens T Fa R_tokens 
  have G_Reader_init : GK P w K mg base (mkC K A6 A4 A5 X3 X4 X5) "Reader" 6 2 2 fn_Reader_init := ok_Reader_init T Fa R_Reader_init G_tokens
  have G_Reader_next_word : GM P w K mg base (mkC K A6 A4 A5 X3 X4 X5) 6 "next_word" 1 1 fn_Reader_next_word := ok_Reader_next_word T Fa R_Reader_next_word 
  have G_Reader_fail : GM P w K mg base (mkC K A6 A4 A5 X3 X4 X5) 6 "fail" 1 1 fn_Reader_fail := ok_Reader_fail T Fa R_Reader_fail 
  have G_Reader_pass_word : GM P w K mg base (mkC K A6 A4 A5 X3 X4 X5) 6 "pass_word" 1 1 fn_Reader_pass_word := ok_Reader_pass_word T Fa R_Reader_pass_word 
  have G_is_name : GF P w K mg base (mkC K A6 A4 A5 X3 X4 X5) "is_name" 1 1 fn_is_name := ok_is_name T Fa R_is_name 
  have G_Reader_asked : GM P w K mg base (mkC K A6 A4 A5 X3 X4 X5) 6 "asked" 2 2 fn_Reader_asked := ok_Reader_asked T Fa R_Reader_asked G_Reader_fail G_Reader_next_word G_Reader_pass_word G_is_name
  have ⟨G_Reader_any_of, G_Reader_all_of, G_Reader_one⟩ := grp_ok_Reader_any_of (P := P) (w := w) (base := base) T Fa R_Reader_any_of R_Reader_all_of R_Reader_one G_Reader_asked G_Reader_fail G_Reader_next_word G_Reader_pass_word 100
  have G_read_gate : GF P w K mg base (mkC K A6 A4 A5 X3 X4 X5) "read_gate" 103 1 fn_read_gate := ok_read_gate T Fa R_read_gate G_Reader_init G_Reader_any_of G_Reader_fail G_Reader_next_word
  have G_Hall_add_writer : GM P w K mg base (mkC K A6 A4 A5 X3 X4 X5) 5 "add_writer" 104 5 fn_Hall_add_writer := ok_Hall_add_writer T Fa R_Hall_add_writer G_Writer_init G_read_form G_read_gate
  have G_Hall_close : GM P w K mg base (mkC K A6 A4 A5 X3 X4 X5) 5 "close" 1 3 fn_Hall_close := ok_Hall_close T Fa R_Hall_close 
  have G_Hall_writer_at : GM P w K mg base (mkC K A6 A4 A5 X3 X4 X5) 5 "writer_at" 1 2 fn_Hall_writer_at := ok_Hall_writer_at T Fa R_Hall_writer_at 
  have G_Hall_rows : GM P w K mg base (mkC K A6 A4 A5 X3 X4 X5) 5 "rows" 2 2 fn_Hall_rows := ok_Hall_rows T Fa R_Hall_rows G_Hall_writer_at
  have G_Hall_set_level : GM P w K mg base (mkC K A6 A4 A5 X3 X4 X5) 5 "set_level" 1 3 fn_Hall_set_level := ok_Hall_set_level T Fa R_Hall_set_level 
  have G_Hall_take_away : GM P w K mg base (mkC K A6 A4 A5 X3 X4 X5) 5 "take_away" 2 2 fn_Hall_take_away := ok_Hall_take_away T Fa R_Hall_take_away G_Hall_writer_at
  have G__law_draw : GF P w K mg base (mkC K A6 A4 A5 X3 X4 X5) "_law_draw" 1 3 fn__law_draw := ok__law_draw T Fa R__law_draw 
  have G__law_pick : GF P w K mg base (mkC K A6 A4 A5 X3 X4 X5) "_law_pick" 2 3 fn__law_pick := ok__law_pick T Fa R__law_pick G__law_draw
  have G__law_name : GF P w K mg base (mkC K A6 A4 A5 X3 X4 X5) "_law_name" 3 2 fn__law_name := ok__law_name T Fa R__law_name G__law_draw G__law_pick
  have G__law_gate := grp_ok__law_gate (P := P) (w := w) (base := base) T Fa R__law_gate G__law_draw G__law_name G__law_pick 100
  have G__law_record : GF P w K mg base (mkC K A6 A4 A5 X3 X4 X5) "_law_record" 4 3 fn__law_record := ok__law_record T Fa R__law_record G__law_draw G__law_name G__law_pick
  have G__law_refused : GF P w K mg base (mkC K A6 A4 A5 X3 X4 X5) "_law_refused" 105 3 fn__law_refused := ok__law_refused T Fa R__law_refused G_Hall_add_writer G_Hall_rows G_Hall_take_away
  have G_above : GF P w K mg base (mkC K A6 A4 A5 X3 X4 X5) "above" 1 1 fn_above := ok_above T Fa R_above 
  have G_Hall_level_of : GM P w K mg base (mkC K A6 A4 A5 X3 X4 X5) 5 "level_of" 2 2 fn_Hall_level_of := ok_Hall_level_of T Fa R_Hall_level_of G_above
  have G_Hall_is_told : GM P w K mg base (mkC K A6 A4 A5 X3 X4 X5) 5 "is_told" 3 3 fn_Hall_is_told := ok_Hall_is_told T Fa R_Hall_is_told G_Hall_level_of
  have G_Hall_ways : GM P w K mg base (mkC K A6 A4 A5 X3 X4 X5) 5 "ways" 2 2 fn_Hall_ways := ok_Hall_ways T Fa R_Hall_ways G_above
  have G_level_word : GF P w K mg base (mkC K A6 A4 A5 X3 X4 X5) "level_word" 1 1 fn_level_word := ok_level_word T Fa R_level_word 
  have G_field_text : GF P w K mg base (mkC K A6 A4 A5 X3 X4 X5) "field_text" 2 2 fn_field_text := ok_field_text T Fa R_field_text G_level_word
  have G_laid_part : GF P w K mg base (mkC K A6 A4 A5 X3 X4 X5) "laid_part" 3 2 fn_laid_part := ok_laid_part T Fa R_laid_part G_field_text
  have G_laid : GF P w K mg base (mkC K A6 A4 A5 X3 X4 X5) "laid" 4 2 fn_laid := ok_laid T Fa R_laid G_laid_part G_read_form
  have G_is_under : GF P w K mg base (mkC K A6 A4 A5 X3 X4 X5) "is_under" 1 2 fn_is_under := ok_is_under T Fa R_is_under 
  have G_passes := grp_ok_passes (P := P) (w := w) (base := base) T Fa R_passes G_is_under 100
  have G_Writer_take : GM P w K mg base (mkC K A6 A4 A5 X3 X4 X5) 4 "take" 102 2 fn_Writer_take := ok_Writer_take T Fa R_Writer_take G_laid G_passes
  have G_Hall_tell : GM P w K mg base (mkC K A6 A4 A5 X3 X4 X5) 5 "tell" 103 2 fn_Hall_tell := ok_Hall_tell T Fa R_Hall_tell G_Hall_is_told G_Hall_ways G_Writer_take
  have G__law_due : GF P w K mg base (mkC K A6 A4 A5 X3 X4 X5) "_law_due" 102 4 fn__law_due := ok__law_due T Fa R__law_due G_Hall_is_told G_above G_passes
  have G__law_told_holds : GF P w K mg base (mkC K A6 A4 A5 X3 X4 X5) "_law_told_holds" 104 4 fn__law_told_holds := ok__law_told_holds T Fa R__law_told_holds G_Hall_rows G_Hall_tell G__law_due G_laid
  have G_strength : GF P w K mg base (mkC K A6 A4 A5 X3 X4 X5) "strength" 1 1 fn_strength := ok_strength T Fa R_strength 
  have ⟨G_shown_within, G_shown⟩ := grp_ok_shown_within (P := P) (w := w) (base := base) T Fa R_shown_within R_shown G_strength 100
  exact ok_law T Fa F G_Hall_init G_Hall_add_writer G_Hall_close G_Hall_rows G_Hall_set_level G_Hall_take_away G__law_draw G__law_gate G__law_name G__law_pick G__law_record G__law_refused G__law_told_holds G_shown
end
theorem all_mk {P : Program} {w : World} {K : PySem.W.Frag} {mg : Str → Option Value} {h : Heap} {fa : Addr} {A6 A4 A5 X3 X4 X5 : Addr} {t_DEEP_MOST_gatetext : Tok} {t_DEEP_MOST_names : Tok} {p_FIELDS : Addr} {dd_FIELDS : Option Addr} {its_FIELDS : Array Value} {m_FIELDS : Nat} {sl_FIELDS : Array (Option Value)} {z_MARKS : Str} {t_MARKS : Tok} {t_PART_MOST : Tok} {z_SIGNS_gatetext : Str} {t_SIGNS_gatetext : Tok} {z_SIGNS_names : Str} {t_SIGNS_names : Tok} {t_TOP_LEVEL : Tok} {t_WIDE_MOST : Tok} {p_WORDS : Addr} {dd_WORDS : Option Addr} {its_WORDS : Array Value} {m_WORDS : Nat} {sl_WORDS : Array (Option Value)} {nm_BadGate q_BadGate : Str} {N_BadGate fz_BadGate : Addr} {bs_BadGate bm_BadGate sub_BadGate : List Value} {sn_BadGate : List Str} {ab_BadGate : Bool} {col_BadGate : Option Bool} {dd_BadGate : Option Addr} {e0_BadGate e1_BadGate e2_BadGate e3_BadGate e5_BadGate : Option Value} {oz_BadGate dz_BadGate pz_BadGate cz_BadGate tz_BadGate : Value} {od_BadGate az_BadGate : Option Addr} {sz_BadGate : Array (Option Value)} {nm_BadForm q_BadForm : Str} {N_BadForm fz_BadForm : Addr} {bs_BadForm bm_BadForm sub_BadForm : List Value} {sn_BadForm : List Str} {ab_BadForm : Bool} {col_BadForm : Option Bool} {dd_BadForm : Option Addr} {e0_BadForm e1_BadForm e2_BadForm e3_BadForm e5_BadForm : Option Value} {oz_BadForm dz_BadForm pz_BadForm cz_BadForm tz_BadForm : Value} {od_BadForm az_BadForm : Option Addr} {sz_BadForm : Array (Option Value)} {f_Hall_init : Addr} {oc_Hall_init kV_Hall_init dc_Hall_init pm_Hall_init cd_Hall_init ct_Hall_init : Value} {od_Hall_init an_Hall_init : Option Addr} {sl_Hall_init : Array (Option Value)} {f_Writer_init : Addr} {oc_Writer_init kV_Writer_init dc_Writer_init pm_Writer_init cd_Writer_init ct_Writer_init : Value} {od_Writer_init an_Writer_init : Option Addr} {sl_Writer_init : Array (Option Value)} {f_read_field : Addr} {oc_read_field kV_read_field dc_read_field pm_read_field cd_read_field ct_read_field : Value} {od_read_field an_read_field : Option Addr} {sl_read_field : Array (Option Value)} {f_with_text : Addr} {oc_with_text kV_with_text dc_with_text pm_with_text cd_with_text ct_with_text : Value} {od_with_text an_with_text : Option Addr} {sl_with_text : Array (Option Value)} {f_read_form : Addr} {oc_read_form kV_read_form dc_read_form pm_read_form cd_read_form ct_read_form : Value} {od_read_form an_read_form : Option Addr} {sl_read_form : Array (Option Value)} {f_tokens : Addr} {oc_tokens kV_tokens dc_tokens pm_tokens cd_tokens ct_tokens : Value} {od_tokens an_tokens : Option Addr} {sl_tokens : Array (Option Value)} {f_Reader_init : Addr} {oc_Reader_init kV_Reader_init dc_Reader_init pm_Reader_init cd_Reader_init ct_Reader_init : Value} {od_Reader_init an_Reader_init : Option Addr} {sl_Reader_init : Array (Option Value)} {f_Reader_next_word : Addr} {oc_Reader_next_word kV_Reader_next_word dc_Reader_next_word pm_Reader_next_word cd_Reader_next_word ct_Reader_next_word : Value} {od_Reader_next_word an_Reader_next_word : Option Addr} {sl_Reader_next_word : Array (Option Value)} {f_Reader_fail : Addr} {oc_Reader_fail kV_Reader_fail dc_Reader_fail pm_Reader_fail cd_Reader_fail ct_Reader_fail : Value} {od_Reader_fail an_Reader_fail : Option Addr} {sl_Reader_fail : Array (Option Value)} {f_Reader_pass_word : Addr} {oc_Reader_pass_word kV_Reader_pass_word dc_Reader_pass_word pm_Reader_pass_word cd_Reader_pass_word ct_Reader_pass_word : Value} {od_Reader_pass_word an_Reader_pass_word : Option Addr} {sl_Reader_pass_word : Array (Option Value)} {f_is_name : Addr} {oc_is_name kV_is_name dc_is_name pm_is_name cd_is_name ct_is_name : Value} {od_is_name an_is_name : Option Addr} {sl_is_name : Array (Option Value)} {f_Reader_asked : Addr} {oc_Reader_asked kV_Reader_asked dc_Reader_asked pm_Reader_asked cd_Reader_asked ct_Reader_asked : Value} {od_Reader_asked an_Reader_asked : Option Addr} {sl_Reader_asked : Array (Option Value)} {f_Reader_any_of : Addr} {oc_Reader_any_of kV_Reader_any_of dc_Reader_any_of pm_Reader_any_of cd_Reader_any_of ct_Reader_any_of : Value} {od_Reader_any_of an_Reader_any_of : Option Addr} {sl_Reader_any_of : Array (Option Value)} {f_Reader_all_of : Addr} {oc_Reader_all_of kV_Reader_all_of dc_Reader_all_of pm_Reader_all_of cd_Reader_all_of ct_Reader_all_of : Value} {od_Reader_all_of an_Reader_all_of : Option Addr} {sl_Reader_all_of : Array (Option Value)} {f_Reader_one : Addr} {oc_Reader_one kV_Reader_one dc_Reader_one pm_Reader_one cd_Reader_one ct_Reader_one : Value} {od_Reader_one an_Reader_one : Option Addr} {sl_Reader_one : Array (Option Value)} {f_read_gate : Addr} {oc_read_gate kV_read_gate dc_read_gate pm_read_gate cd_read_gate ct_read_gate : Value} {od_read_gate an_read_gate : Option Addr} {sl_read_gate : Array (Option Value)} {f_Hall_add_writer : Addr} {oc_Hall_add_writer kV_Hall_add_writer dc_Hall_add_writer pm_Hall_add_writer cd_Hall_add_writer ct_Hall_add_writer : Value} {od_Hall_add_writer an_Hall_add_writer : Option Addr} {sl_Hall_add_writer : Array (Option Value)} {f_Hall_close : Addr} {oc_Hall_close kV_Hall_close dc_Hall_close pm_Hall_close cd_Hall_close ct_Hall_close : Value} {od_Hall_close an_Hall_close : Option Addr} {sl_Hall_close : Array (Option Value)} {f_Hall_writer_at : Addr} {oc_Hall_writer_at kV_Hall_writer_at dc_Hall_writer_at pm_Hall_writer_at cd_Hall_writer_at ct_Hall_writer_at : Value} {od_Hall_writer_at an_Hall_writer_at : Option Addr} {sl_Hall_writer_at : Array (Option Value)} {f_Hall_rows : Addr} {oc_Hall_rows kV_Hall_rows dc_Hall_rows pm_Hall_rows cd_Hall_rows ct_Hall_rows : Value} {od_Hall_rows an_Hall_rows : Option Addr} {sl_Hall_rows : Array (Option Value)} {f_Hall_set_level : Addr} {oc_Hall_set_level kV_Hall_set_level dc_Hall_set_level pm_Hall_set_level cd_Hall_set_level ct_Hall_set_level : Value} {od_Hall_set_level an_Hall_set_level : Option Addr} {sl_Hall_set_level : Array (Option Value)} {f_Hall_take_away : Addr} {oc_Hall_take_away kV_Hall_take_away dc_Hall_take_away pm_Hall_take_away cd_Hall_take_away ct_Hall_take_away : Value} {od_Hall_take_away an_Hall_take_away : Option Addr} {sl_Hall_take_away : Array (Option Value)} {f__law_draw : Addr} {oc__law_draw kV__law_draw dc__law_draw pm__law_draw cd__law_draw ct__law_draw : Value} {od__law_draw an__law_draw : Option Addr} {sl__law_draw : Array (Option Value)} {f__law_pick : Addr} {oc__law_pick kV__law_pick dc__law_pick pm__law_pick cd__law_pick ct__law_pick : Value} {od__law_pick an__law_pick : Option Addr} {sl__law_pick : Array (Option Value)} {f__law_name : Addr} {oc__law_name kV__law_name dc__law_name pm__law_name cd__law_name ct__law_name : Value} {od__law_name an__law_name : Option Addr} {sl__law_name : Array (Option Value)} {f__law_gate : Addr} {oc__law_gate kV__law_gate dc__law_gate pm__law_gate cd__law_gate ct__law_gate : Value} {od__law_gate an__law_gate : Option Addr} {sl__law_gate : Array (Option Value)} {f__law_record : Addr} {oc__law_record kV__law_record dc__law_record pm__law_record cd__law_record ct__law_record : Value} {od__law_record an__law_record : Option Addr} {sl__law_record : Array (Option Value)} {f__law_refused : Addr} {oc__law_refused kV__law_refused dc__law_refused pm__law_refused cd__law_refused ct__law_refused : Value} {od__law_refused an__law_refused : Option Addr} {sl__law_refused : Array (Option Value)} {f_above : Addr} {oc_above kV_above dc_above pm_above cd_above ct_above : Value} {od_above an_above : Option Addr} {sl_above : Array (Option Value)} {f_Hall_level_of : Addr} {oc_Hall_level_of kV_Hall_level_of dc_Hall_level_of pm_Hall_level_of cd_Hall_level_of ct_Hall_level_of : Value} {od_Hall_level_of an_Hall_level_of : Option Addr} {sl_Hall_level_of : Array (Option Value)} {f_Hall_is_told : Addr} {oc_Hall_is_told kV_Hall_is_told dc_Hall_is_told pm_Hall_is_told cd_Hall_is_told ct_Hall_is_told : Value} {od_Hall_is_told an_Hall_is_told : Option Addr} {sl_Hall_is_told : Array (Option Value)} {f_Hall_ways : Addr} {oc_Hall_ways kV_Hall_ways dc_Hall_ways pm_Hall_ways cd_Hall_ways ct_Hall_ways : Value} {od_Hall_ways an_Hall_ways : Option Addr} {sl_Hall_ways : Array (Option Value)} {f_level_word : Addr} {oc_level_word kV_level_word dc_level_word pm_level_word cd_level_word ct_level_word : Value} {od_level_word an_level_word : Option Addr} {sl_level_word : Array (Option Value)} {f_field_text : Addr} {oc_field_text kV_field_text dc_field_text pm_field_text cd_field_text ct_field_text : Value} {od_field_text an_field_text : Option Addr} {sl_field_text : Array (Option Value)} {f_laid_part : Addr} {oc_laid_part kV_laid_part dc_laid_part pm_laid_part cd_laid_part ct_laid_part : Value} {od_laid_part an_laid_part : Option Addr} {sl_laid_part : Array (Option Value)} {f_laid : Addr} {oc_laid kV_laid dc_laid pm_laid cd_laid ct_laid : Value} {od_laid an_laid : Option Addr} {sl_laid : Array (Option Value)} {f_is_under : Addr} {oc_is_under kV_is_under dc_is_under pm_is_under cd_is_under ct_is_under : Value} {od_is_under an_is_under : Option Addr} {sl_is_under : Array (Option Value)} {f_passes : Addr} {oc_passes kV_passes dc_passes pm_passes cd_passes ct_passes : Value} {od_passes an_passes : Option Addr} {sl_passes : Array (Option Value)} {f_Writer_take : Addr} {oc_Writer_take kV_Writer_take dc_Writer_take pm_Writer_take cd_Writer_take ct_Writer_take : Value} {od_Writer_take an_Writer_take : Option Addr} {sl_Writer_take : Array (Option Value)} {f_Hall_tell : Addr} {oc_Hall_tell kV_Hall_tell dc_Hall_tell pm_Hall_tell cd_Hall_tell ct_Hall_tell : Value} {od_Hall_tell an_Hall_tell : Option Addr} {sl_Hall_tell : Array (Option Value)} {f__law_due : Addr} {oc__law_due kV__law_due dc__law_due pm__law_due cd__law_due ct__law_due : Value} {od__law_due an__law_due : Option Addr} {sl__law_due : Array (Option Value)} {f__law_told_holds : Addr} {oc__law_told_holds kV__law_told_holds dc__law_told_holds pm__law_told_holds cd__law_told_holds ct__law_told_holds : Value} {od__law_told_holds an__law_told_holds : Option Addr} {sl__law_told_holds : Array (Option Value)} {f_strength : Addr} {oc_strength kV_strength dc_strength pm_strength cd_strength ct_strength : Value} {od_strength an_strength : Option Addr} {sl_strength : Array (Option Value)} {f_shown_within : Addr} {oc_shown_within kV_shown_within dc_shown_within pm_shown_within cd_shown_within ct_shown_within : Value} {od_shown_within an_shown_within : Option Addr} {sl_shown_within : Array (Option Value)} {f_shown : Addr} {oc_shown kV_shown dc_shown pm_shown cd_shown ct_shown : Value} {od_shown an_shown : Option Addr} {sl_shown : Array (Option Value)} {f_law : Addr} {oc_law kV_law dc_law pm_law cd_law ct_law : Value} {od_law an_law : Option Addr} {sl_law : Array (Option Value)} (X : K.In h) (G : h.Ns mainGlobals mg) (hfa : mg "law" = some (.ref fa))
    (hn_all : PySem.W.nsIn K mainGlobals "all" = some none)
    (hn_any : PySem.W.nsIn K mainGlobals "any" = some none)
    (hn_dict : PySem.W.nsIn K mainGlobals "dict" = some none)
    (hn_int : PySem.W.nsIn K mainGlobals "int" = some none)
    (hn_isinstance : PySem.W.nsIn K mainGlobals "isinstance" = some none)
    (hn_len : PySem.W.nsIn K mainGlobals "len" = some none)
    (hn_list : PySem.W.nsIn K mainGlobals "list" = some none)
    (hn_min : PySem.W.nsIn K mainGlobals "min" = some none)
    (hn_range : PySem.W.nsIn K mainGlobals "range" = some none)
    (hn_sorted : PySem.W.nsIn K mainGlobals "sorted" = some none)
    (hn_str : PySem.W.nsIn K mainGlobals "str" = some none)
    (hn_tuple : PySem.W.nsIn K mainGlobals "tuple" = some none)
    (hc_DEEP_MOST_gatetext : PySem.W.nsIn K mainGlobals "DEEP_MOST_gatetext" = some (some (.int 30 t_DEEP_MOST_gatetext)))
    (hc_DEEP_MOST_names : PySem.W.nsIn K mainGlobals "DEEP_MOST_names" = some (some (.int 6 t_DEEP_MOST_names)))
    (hc_FIELDS : PySem.W.nsIn K mainGlobals "FIELDS" = some (some (.ref p_FIELDS)))
    (hl_FIELDS : K.lookup p_FIELDS = some ⟨.type "tuple", dd_FIELDS, .seq its_FIELDS m_FIELDS, sl_FIELDS⟩)
    (hi_FIELDS : Paired (fun (z : Str) (u : Value) => ∃ t, u = Value.str z t) (["moment", "level", "name", "words"] : List Str) its_FIELDS.toList)
    (hs_FIELDS : its_FIELDS.size ≤ sizeLine)
    (hc_MARKS : PySem.W.nsIn K mainGlobals "MARKS" = some (some (.str z_MARKS t_MARKS)))
    (he_MARKS : z_MARKS = ⟨([60, 62, 61] : List Nat).toArray⟩)
    (hc_PART_MOST : PySem.W.nsIn K mainGlobals "PART_MOST" = some (some (.int 8 t_PART_MOST)))
    (hc_SIGNS_gatetext : PySem.W.nsIn K mainGlobals "SIGNS_gatetext" = some (some (.str z_SIGNS_gatetext t_SIGNS_gatetext)))
    (he_SIGNS_gatetext : z_SIGNS_gatetext = ⟨([97, 98, 99, 100, 101, 102, 103, 104, 105, 106, 107, 108, 109, 110, 111, 112, 113, 114, 115, 116, 117, 118, 119, 120, 121, 122, 48, 49, 50, 51, 52, 53, 54, 55, 56, 57, 95, 46, 42] : List Nat).toArray⟩)
    (hc_SIGNS_names : PySem.W.nsIn K mainGlobals "SIGNS_names" = some (some (.str z_SIGNS_names t_SIGNS_names)))
    (he_SIGNS_names : z_SIGNS_names = ⟨([97, 98, 99, 100, 101, 102, 103, 104, 105, 106, 107, 108, 109, 110, 111, 112, 113, 114, 115, 116, 117, 118, 119, 120, 121, 122, 48, 49, 50, 51, 52, 53, 54, 55, 56, 57, 95] : List Nat).toArray⟩)
    (hc_TOP_LEVEL : PySem.W.nsIn K mainGlobals "TOP_LEVEL" = some (some (.int 30 t_TOP_LEVEL)))
    (hc_WIDE_MOST : PySem.W.nsIn K mainGlobals "WIDE_MOST" = some (some (.int 40 t_WIDE_MOST)))
    (hc_WORDS : PySem.W.nsIn K mainGlobals "WORDS" = some (some (.ref p_WORDS)))
    (hl_WORDS : K.lookup p_WORDS = some ⟨.type "tuple", dd_WORDS, .seq its_WORDS m_WORDS, sl_WORDS⟩)
    (hi_WORDS : Paired (fun (z : Str) (u : Value) => ∃ t, u = Value.str z t) (["all", "debug", "info", "warn", "error", "fatal"] : List Str) its_WORDS.toList)
    (hs_WORDS : its_WORDS.size ≤ sizeLine)
    (hg_BadGate : PySem.W.nsIn K mainGlobals "BadGate" = some (some (.ref X3)))
    (hg_BadForm : PySem.W.nsIn K mainGlobals "BadForm" = some (some (.ref X4)))
    (hg_NoWriter : PySem.W.nsIn K mainGlobals "NoWriter" = some (some (.ref X5)))
    (hi_BadGate : PySem.W.isClsIn K X3 = true)
    (hk_BadGate : PySem.W.keepIn K (.ref X3) = true)
    (hs_BadGate : PySem.W.subIn K (.ref X3) (.type "BaseException") = some true)
    (ht_BadGate : PySem.W.typeIn K (.ref X3) = some (.type "type"))
    (hm_BadGate_BadGate : PySem.W.subIn K (.ref X3) (.ref X3) = some true)
    (hm_BadForm_BadGate : PySem.W.subIn K (.ref X4) (.ref X3) = some false)
    (hm_NoWriter_BadGate : PySem.W.subIn K (.ref X5) (.ref X3) = some false)
    (hi_BadForm : PySem.W.isClsIn K X4 = true)
    (hk_BadForm : PySem.W.keepIn K (.ref X4) = true)
    (hs_BadForm : PySem.W.subIn K (.ref X4) (.type "BaseException") = some true)
    (ht_BadForm : PySem.W.typeIn K (.ref X4) = some (.type "type"))
    (hm_BadGate_BadForm : PySem.W.subIn K (.ref X3) (.ref X4) = some false)
    (hm_BadForm_BadForm : PySem.W.subIn K (.ref X4) (.ref X4) = some true)
    (hm_NoWriter_BadForm : PySem.W.subIn K (.ref X5) (.ref X4) = some false)
    (hq_NoWriter : PySem.W.excIn K X5 [.type "ValueError", .type "Exception", .type "BaseException", .type "object"] "ValueError.__new__" = true)
    (hi_NoWriter : PySem.W.isClsIn K X5 = true)
    (hk_NoWriter : PySem.W.keepIn K (.ref X5) = true)
    (hs_NoWriter : PySem.W.subIn K (.ref X5) (.type "BaseException") = some true)
    (ht_NoWriter : PySem.W.typeIn K (.ref X5) = some (.type "type"))
    (hm_BadGate_NoWriter : PySem.W.subIn K (.ref X3) (.ref X5) = some false)
    (hm_BadForm_NoWriter : PySem.W.subIn K (.ref X4) (.ref X5) = some false)
    (hm_NoWriter_NoWriter : PySem.W.subIn K (.ref X5) (.ref X5) = some true)
    (hxl_BadGate : K.lookup X3 = some (excClassObj nm_BadGate q_BadGate X3 N_BadGate bs_BadGate bm_BadGate true sn_BadGate sub_BadGate ab_BadGate col_BadGate dd_BadGate e0_BadGate e1_BadGate e2_BadGate e3_BadGate e5_BadGate "ValueError.__new__"))
    (hrv_BadGate : PySem.HandSPX.refsVE bm_BadGate = true)
    (hsa_BadGate : PySem.W.findIn K (.ref X3) "__setattr__" = some (some (.builtin "object.__setattr__")))
    (hga_BadGate : PySem.W.findIn K (.ref X3) "__getattribute__" = some (some (.builtin "BaseException.__getattribute__")))
    (hgg_BadGate : PySem.W.findIn K (.ref X3) "__getattr__" = some none)
    (hnb_BadGate : PySem.W.findIn K (.ref X3) "at" = some none)
    (hia_BadGate : PySem.W.findIn K (.ref X3) "__init__" = some (some (.ref fz_BadGate)))
    (hit_BadGate : PySem.W.typeIn K (.ref fz_BadGate) = some (.type "function"))
    (hil_BadGate : K.lookup fz_BadGate = some ⟨oz_BadGate, od_BadGate, .func (PySem.W.fnOf "__init__" "BadGate.__init__" (PySem.OwnX.iA ⟨9, 17, 9, 21⟩ ⟨9, 23, 9, 25⟩) (PySem.OwnX.iB ⟨10, 8, 10, 12⟩ ⟨10, 8, 10, 15⟩ ⟨10, 18, 10, 20⟩ ⟨10, 8, 10, 20⟩) PySem.OwnX.iS .none .none dz_BadGate pz_BadGate az_BadGate cz_BadGate tz_BadGate), sz_BadGate⟩)
    (hic_BadGate : PySem.W.codeIn K cz_BadGate "BadGate.__init__" = true)
    (hhd_BadGate : PySem.W.hasDictIn K X3 = true)
    (hxl_BadForm : K.lookup X4 = some (excClassObj nm_BadForm q_BadForm X4 N_BadForm bs_BadForm bm_BadForm true sn_BadForm sub_BadForm ab_BadForm col_BadForm dd_BadForm e0_BadForm e1_BadForm e2_BadForm e3_BadForm e5_BadForm "ValueError.__new__"))
    (hrv_BadForm : PySem.HandSPX.refsVE bm_BadForm = true)
    (hsa_BadForm : PySem.W.findIn K (.ref X4) "__setattr__" = some (some (.builtin "object.__setattr__")))
    (hga_BadForm : PySem.W.findIn K (.ref X4) "__getattribute__" = some (some (.builtin "BaseException.__getattribute__")))
    (hgg_BadForm : PySem.W.findIn K (.ref X4) "__getattr__" = some none)
    (hnb_BadForm : PySem.W.findIn K (.ref X4) "at" = some none)
    (hia_BadForm : PySem.W.findIn K (.ref X4) "__init__" = some (some (.ref fz_BadForm)))
    (hit_BadForm : PySem.W.typeIn K (.ref fz_BadForm) = some (.type "function"))
    (hil_BadForm : K.lookup fz_BadForm = some ⟨oz_BadForm, od_BadForm, .func (PySem.W.fnOf "__init__" "BadForm.__init__" (PySem.OwnX.iA ⟨13, 17, 13, 21⟩ ⟨13, 23, 13, 25⟩) (PySem.OwnX.iB ⟨14, 8, 14, 12⟩ ⟨14, 8, 14, 15⟩ ⟨14, 18, 14, 20⟩ ⟨14, 8, 14, 20⟩) PySem.OwnX.iS .none .none dz_BadForm pz_BadForm az_BadForm cz_BadForm tz_BadForm), sz_BadForm⟩)
    (hic_BadForm : PySem.W.codeIn K cz_BadForm "BadForm.__init__" = true)
    (hhd_BadForm : PySem.W.hasDictIn K X4 = true)
    (ha_Reader : PySem.W.nsIn K mainGlobals "Reader" = some (some (.ref A6)))
    (hfc_Reader : FactC K A6)
    (hna_Reader_left : PySem.W.findIn K (.ref A6) "left" = some none)
    (hna_Reader_deep : PySem.W.findIn K (.ref A6) "deep" = some none)
    (hmk_Reader : PySem.W.makesIn K A6 = true)
    (hkc_Reader : PySem.W.keepIn K (.ref A6) = true)
    (ha_Writer : PySem.W.nsIn K mainGlobals "Writer" = some (some (.ref A4)))
    (hfc_Writer : FactC K A4)
    (hna_Writer_name : PySem.W.findIn K (.ref A4) "name" = some none)
    (hna_Writer_least : PySem.W.findIn K (.ref A4) "least" = some none)
    (hna_Writer_gate : PySem.W.findIn K (.ref A4) "gate" = some none)
    (hna_Writer_form : PySem.W.findIn K (.ref A4) "form" = some none)
    (hna_Writer_texts : PySem.W.findIn K (.ref A4) "texts" = some none)
    (hmk_Writer : PySem.W.makesIn K A4 = true)
    (hkc_Writer : PySem.W.keepIn K (.ref A4) = true)
    (ha_Hall : PySem.W.nsIn K mainGlobals "Hall" = some (some (.ref A5)))
    (hfc_Hall : FactC K A5)
    (hna_Hall_levels : PySem.W.findIn K (.ref A5) "levels" = some none)
    (hna_Hall_closed : PySem.W.findIn K (.ref A5) "closed" = some none)
    (hna_Hall_writers : PySem.W.findIn K (.ref A5) "writers" = some none)
    (hna_Hall_many : PySem.W.findIn K (.ref A5) "many" = some none)
    (hna_Hall_still : PySem.W.findIn K (.ref A5) "still" = some none)
    (hmk_Hall : PySem.W.makesIn K A5 = true)
    (hkc_Hall : PySem.W.keepIn K (.ref A5) = true)
    (ha_Hall_init : PySem.W.findIn K (.ref A5) "__init__" = some (some (.ref f_Hall_init)))
    (hi_Hall_init : PySem.W.isFn K (.ref f_Hall_init) = true)
    (hl_Hall_init : K.lookup f_Hall_init = some ⟨oc_Hall_init, od_Hall_init, .func (PySem.W.fnOf "__init__" "Hall.__init__" (defArgs s_Hall_init) (defBody s_Hall_init) (defScope s_Hall_init) .none kV_Hall_init dc_Hall_init pm_Hall_init an_Hall_init cd_Hall_init ct_Hall_init), sl_Hall_init⟩)
    (hcd_Hall_init : PySem.W.codeIn K cd_Hall_init "Hall.__init__" = true)
    (hkp_Hall_init : PySem.W.keepIn K (.ref f_Hall_init) = true)
    (ha_Writer_init : PySem.W.findIn K (.ref A4) "__init__" = some (some (.ref f_Writer_init)))
    (hi_Writer_init : PySem.W.isFn K (.ref f_Writer_init) = true)
    (hl_Writer_init : K.lookup f_Writer_init = some ⟨oc_Writer_init, od_Writer_init, .func (PySem.W.fnOf "__init__" "Writer.__init__" (defArgs s_Writer_init) (defBody s_Writer_init) (defScope s_Writer_init) .none kV_Writer_init dc_Writer_init pm_Writer_init an_Writer_init cd_Writer_init ct_Writer_init), sl_Writer_init⟩)
    (hcd_Writer_init : PySem.W.codeIn K cd_Writer_init "Writer.__init__" = true)
    (hkp_Writer_init : PySem.W.keepIn K (.ref f_Writer_init) = true)
    (ha_read_field : PySem.W.nsIn K mainGlobals "read_field" = some (some (.ref f_read_field)))
    (hl_read_field : K.lookup f_read_field = some ⟨oc_read_field, od_read_field, .func (PySem.W.fnOf "read_field" "read_field" (defArgs s_read_field) (defBody s_read_field) (defScope s_read_field) .none kV_read_field dc_read_field pm_read_field an_read_field cd_read_field ct_read_field), sl_read_field⟩)
    (hcd_read_field : PySem.W.codeIn K cd_read_field "read_field" = true)
    (hkp_read_field : PySem.W.keepIn K (.ref f_read_field) = true)
    (ha_with_text : PySem.W.nsIn K mainGlobals "with_text" = some (some (.ref f_with_text)))
    (hl_with_text : K.lookup f_with_text = some ⟨oc_with_text, od_with_text, .func (PySem.W.fnOf "with_text" "with_text" (defArgs s_with_text) (defBody s_with_text) (defScope s_with_text) .none kV_with_text dc_with_text pm_with_text an_with_text cd_with_text ct_with_text), sl_with_text⟩)
    (hcd_with_text : PySem.W.codeIn K cd_with_text "with_text" = true)
    (hkp_with_text : PySem.W.keepIn K (.ref f_with_text) = true)
    (ha_read_form : PySem.W.nsIn K mainGlobals "read_form" = some (some (.ref f_read_form)))
    (hl_read_form : K.lookup f_read_form = some ⟨oc_read_form, od_read_form, .func (PySem.W.fnOf "read_form" "read_form" (defArgs s_read_form) (defBody s_read_form) (defScope s_read_form) .none kV_read_form dc_read_form pm_read_form an_read_form cd_read_form ct_read_form), sl_read_form⟩)
    (hcd_read_form : PySem.W.codeIn K cd_read_form "read_form" = true)
    (hkp_read_form : PySem.W.keepIn K (.ref f_read_form) = true)
    (ha_tokens : PySem.W.nsIn K mainGlobals "tokens" = some (some (.ref f_tokens)))
    (hl_tokens : K.lookup f_tokens = some ⟨oc_tokens, od_tokens, .func (PySem.W.fnOf "tokens" "tokens" (defArgs s_tokens) (defBody s_tokens) (defScope s_tokens) .none kV_tokens dc_tokens pm_tokens an_tokens cd_tokens ct_tokens), sl_tokens⟩)
    (hcd_tokens : PySem.W.codeIn K cd_tokens "tokens" = true)
    (hkp_tokens : PySem.W.keepIn K (.ref f_tokens) = true)
    (ha_Reader_init : PySem.W.findIn K (.ref A6) "__init__" = some (some (.ref f_Reader_init)))
    (hi_Reader_init : PySem.W.isFn K (.ref f_Reader_init) = true)
    (hl_Reader_init : K.lookup f_Reader_init = some ⟨oc_Reader_init, od_Reader_init, .func (PySem.W.fnOf "__init__" "Reader.__init__" (defArgs s_Reader_init) (defBody s_Reader_init) (defScope s_Reader_init) .none kV_Reader_init dc_Reader_init pm_Reader_init an_Reader_init cd_Reader_init ct_Reader_init), sl_Reader_init⟩)
    (hcd_Reader_init : PySem.W.codeIn K cd_Reader_init "Reader.__init__" = true)
    (hkp_Reader_init : PySem.W.keepIn K (.ref f_Reader_init) = true)
    (ha_Reader_next_word : PySem.W.findIn K (.ref A6) "next_word" = some (some (.ref f_Reader_next_word)))
    (hi_Reader_next_word : PySem.W.isFn K (.ref f_Reader_next_word) = true)
    (hl_Reader_next_word : K.lookup f_Reader_next_word = some ⟨oc_Reader_next_word, od_Reader_next_word, .func (PySem.W.fnOf "next_word" "Reader.next_word" (defArgs s_Reader_next_word) (defBody s_Reader_next_word) (defScope s_Reader_next_word) .none kV_Reader_next_word dc_Reader_next_word pm_Reader_next_word an_Reader_next_word cd_Reader_next_word ct_Reader_next_word), sl_Reader_next_word⟩)
    (hcd_Reader_next_word : PySem.W.codeIn K cd_Reader_next_word "Reader.next_word" = true)
    (hkp_Reader_next_word : PySem.W.keepIn K (.ref f_Reader_next_word) = true)
    (ha_Reader_fail : PySem.W.findIn K (.ref A6) "fail" = some (some (.ref f_Reader_fail)))
    (hi_Reader_fail : PySem.W.isFn K (.ref f_Reader_fail) = true)
    (hl_Reader_fail : K.lookup f_Reader_fail = some ⟨oc_Reader_fail, od_Reader_fail, .func (PySem.W.fnOf "fail" "Reader.fail" (defArgs s_Reader_fail) (defBody s_Reader_fail) (defScope s_Reader_fail) .none kV_Reader_fail dc_Reader_fail pm_Reader_fail an_Reader_fail cd_Reader_fail ct_Reader_fail), sl_Reader_fail⟩)
    (hcd_Reader_fail : PySem.W.codeIn K cd_Reader_fail "Reader.fail" = true)
    (hkp_Reader_fail : PySem.W.keepIn K (.ref f_Reader_fail) = true)
    (ha_Reader_pass_word : PySem.W.findIn K (.ref A6) "pass_word" = some (some (.ref f_Reader_pass_word)))
    (hi_Reader_pass_word : PySem.W.isFn K (.ref f_Reader_pass_word) = true)
    (hl_Reader_pass_word : K.lookup f_Reader_pass_word = some ⟨oc_Reader_pass_word, od_Reader_pass_word, .func (PySem.W.fnOf "pass_word" "Reader.pass_word" (defArgs s_Reader_pass_word) (defBody s_Reader_pass_word) (defScope s_Reader_pass_word) .none kV_Reader_pass_word dc_Reader_pass_word pm_Reader_pass_word an_Reader_pass_word cd_Reader_pass_word ct_Reader_pass_word), sl_Reader_pass_word⟩)
    (hcd_Reader_pass_word : PySem.W.codeIn K cd_Reader_pass_word "Reader.pass_word" = true)
    (hkp_Reader_pass_word : PySem.W.keepIn K (.ref f_Reader_pass_word) = true)
    (ha_is_name : PySem.W.nsIn K mainGlobals "is_name" = some (some (.ref f_is_name)))
    (hl_is_name : K.lookup f_is_name = some ⟨oc_is_name, od_is_name, .func (PySem.W.fnOf "is_name" "is_name" (defArgs s_is_name) (defBody s_is_name) (defScope s_is_name) .none kV_is_name dc_is_name pm_is_name an_is_name cd_is_name ct_is_name), sl_is_name⟩)
    (hcd_is_name : PySem.W.codeIn K cd_is_name "is_name" = true)
    (hkp_is_name : PySem.W.keepIn K (.ref f_is_name) = true)
    (ha_Reader_asked : PySem.W.findIn K (.ref A6) "asked" = some (some (.ref f_Reader_asked)))
    (hi_Reader_asked : PySem.W.isFn K (.ref f_Reader_asked) = true)
    (hl_Reader_asked : K.lookup f_Reader_asked = some ⟨oc_Reader_asked, od_Reader_asked, .func (PySem.W.fnOf "asked" "Reader.asked" (defArgs s_Reader_asked) (defBody s_Reader_asked) (defScope s_Reader_asked) .none kV_Reader_asked dc_Reader_asked pm_Reader_asked an_Reader_asked cd_Reader_asked ct_Reader_asked), sl_Reader_asked⟩)
    (hcd_Reader_asked : PySem.W.codeIn K cd_Reader_asked "Reader.asked" = true)
    (hkp_Reader_asked : PySem.W.keepIn K (.ref f_Reader_asked) = true)
    (ha_Reader_any_of : PySem.W.findIn K (.ref A6) "any_of" = some (some (.ref f_Reader_any_of)))
    (hi_Reader_any_of : PySem.W.isFn K (.ref f_Reader_any_of) = true)
    (hl_Reader_any_of : K.lookup f_Reader_any_of = some ⟨oc_Reader_any_of, od_Reader_any_of, .func (PySem.W.fnOf "any_of" "Reader.any_of" (defArgs s_Reader_any_of) (defBody s_Reader_any_of) (defScope s_Reader_any_of) .none kV_Reader_any_of dc_Reader_any_of pm_Reader_any_of an_Reader_any_of cd_Reader_any_of ct_Reader_any_of), sl_Reader_any_of⟩)
    (hcd_Reader_any_of : PySem.W.codeIn K cd_Reader_any_of "Reader.any_of" = true)
    (hkp_Reader_any_of : PySem.W.keepIn K (.ref f_Reader_any_of) = true)
    (ha_Reader_all_of : PySem.W.findIn K (.ref A6) "all_of" = some (some (.ref f_Reader_all_of)))
    (hi_Reader_all_of : PySem.W.isFn K (.ref f_Reader_all_of) = true)
    (hl_Reader_all_of : K.lookup f_Reader_all_of = some ⟨oc_Reader_all_of, od_Reader_all_of, .func (PySem.W.fnOf "all_of" "Reader.all_of" (defArgs s_Reader_all_of) (defBody s_Reader_all_of) (defScope s_Reader_all_of) .none kV_Reader_all_of dc_Reader_all_of pm_Reader_all_of an_Reader_all_of cd_Reader_all_of ct_Reader_all_of), sl_Reader_all_of⟩)
    (hcd_Reader_all_of : PySem.W.codeIn K cd_Reader_all_of "Reader.all_of" = true)
    (hkp_Reader_all_of : PySem.W.keepIn K (.ref f_Reader_all_of) = true)
    (ha_Reader_one : PySem.W.findIn K (.ref A6) "one" = some (some (.ref f_Reader_one)))
    (hi_Reader_one : PySem.W.isFn K (.ref f_Reader_one) = true)
    (hl_Reader_one : K.lookup f_Reader_one = some ⟨oc_Reader_one, od_Reader_one, .func (PySem.W.fnOf "one" "Reader.one" (defArgs s_Reader_one) (defBody s_Reader_one) (defScope s_Reader_one) .none kV_Reader_one dc_Reader_one pm_Reader_one an_Reader_one cd_Reader_one ct_Reader_one), sl_Reader_one⟩)
    (hcd_Reader_one : PySem.W.codeIn K cd_Reader_one "Reader.one" = true)
    (hkp_Reader_one : PySem.W.keepIn K (.ref f_Reader_one) = true)
    (ha_read_gate : PySem.W.nsIn K mainGlobals "read_gate" = some (some (.ref f_read_gate)))
    (hl_read_gate : K.lookup f_read_gate = some ⟨oc_read_gate, od_read_gate, .func (PySem.W.fnOf "read_gate" "read_gate" (defArgs s_read_gate) (defBody s_read_gate) (defScope s_read_gate) .none kV_read_gate dc_read_gate pm_read_gate an_read_gate cd_read_gate ct_read_gate), sl_read_gate⟩)
    (hcd_read_gate : PySem.W.codeIn K cd_read_gate "read_gate" = true)
    (hkp_read_gate : PySem.W.keepIn K (.ref f_read_gate) = true)
    (ha_Hall_add_writer : PySem.W.findIn K (.ref A5) "add_writer" = some (some (.ref f_Hall_add_writer)))
    (hi_Hall_add_writer : PySem.W.isFn K (.ref f_Hall_add_writer) = true)
    (hl_Hall_add_writer : K.lookup f_Hall_add_writer = some ⟨oc_Hall_add_writer, od_Hall_add_writer, .func (PySem.W.fnOf "add_writer" "Hall.add_writer" (defArgs s_Hall_add_writer) (defBody s_Hall_add_writer) (defScope s_Hall_add_writer) .none kV_Hall_add_writer dc_Hall_add_writer pm_Hall_add_writer an_Hall_add_writer cd_Hall_add_writer ct_Hall_add_writer), sl_Hall_add_writer⟩)
    (hcd_Hall_add_writer : PySem.W.codeIn K cd_Hall_add_writer "Hall.add_writer" = true)
    (hkp_Hall_add_writer : PySem.W.keepIn K (.ref f_Hall_add_writer) = true)
    (ha_Hall_close : PySem.W.findIn K (.ref A5) "close" = some (some (.ref f_Hall_close)))
    (hi_Hall_close : PySem.W.isFn K (.ref f_Hall_close) = true)
    (hl_Hall_close : K.lookup f_Hall_close = some ⟨oc_Hall_close, od_Hall_close, .func (PySem.W.fnOf "close" "Hall.close" (defArgs s_Hall_close) (defBody s_Hall_close) (defScope s_Hall_close) .none kV_Hall_close dc_Hall_close pm_Hall_close an_Hall_close cd_Hall_close ct_Hall_close), sl_Hall_close⟩)
    (hcd_Hall_close : PySem.W.codeIn K cd_Hall_close "Hall.close" = true)
    (hkp_Hall_close : PySem.W.keepIn K (.ref f_Hall_close) = true)
    (ha_Hall_writer_at : PySem.W.findIn K (.ref A5) "writer_at" = some (some (.ref f_Hall_writer_at)))
    (hi_Hall_writer_at : PySem.W.isFn K (.ref f_Hall_writer_at) = true)
    (hl_Hall_writer_at : K.lookup f_Hall_writer_at = some ⟨oc_Hall_writer_at, od_Hall_writer_at, .func (PySem.W.fnOf "writer_at" "Hall.writer_at" (defArgs s_Hall_writer_at) (defBody s_Hall_writer_at) (defScope s_Hall_writer_at) .none kV_Hall_writer_at dc_Hall_writer_at pm_Hall_writer_at an_Hall_writer_at cd_Hall_writer_at ct_Hall_writer_at), sl_Hall_writer_at⟩)
    (hcd_Hall_writer_at : PySem.W.codeIn K cd_Hall_writer_at "Hall.writer_at" = true)
    (hkp_Hall_writer_at : PySem.W.keepIn K (.ref f_Hall_writer_at) = true)
    (ha_Hall_rows : PySem.W.findIn K (.ref A5) "rows" = some (some (.ref f_Hall_rows)))
    (hi_Hall_rows : PySem.W.isFn K (.ref f_Hall_rows) = true)
    (hl_Hall_rows : K.lookup f_Hall_rows = some ⟨oc_Hall_rows, od_Hall_rows, .func (PySem.W.fnOf "rows" "Hall.rows" (defArgs s_Hall_rows) (defBody s_Hall_rows) (defScope s_Hall_rows) .none kV_Hall_rows dc_Hall_rows pm_Hall_rows an_Hall_rows cd_Hall_rows ct_Hall_rows), sl_Hall_rows⟩)
    (hcd_Hall_rows : PySem.W.codeIn K cd_Hall_rows "Hall.rows" = true)
    (hkp_Hall_rows : PySem.W.keepIn K (.ref f_Hall_rows) = true)
    (ha_Hall_set_level : PySem.W.findIn K (.ref A5) "set_level" = some (some (.ref f_Hall_set_level)))
    (hi_Hall_set_level : PySem.W.isFn K (.ref f_Hall_set_level) = true)
    (hl_Hall_set_level : K.lookup f_Hall_set_level = some ⟨oc_Hall_set_level, od_Hall_set_level, .func (PySem.W.fnOf "set_level" "Hall.set_level" (defArgs s_Hall_set_level) (defBody s_Hall_set_level) (defScope s_Hall_set_level) .none kV_Hall_set_level dc_Hall_set_level pm_Hall_set_level an_Hall_set_level cd_Hall_set_level ct_Hall_set_level), sl_Hall_set_level⟩)
    (hcd_Hall_set_level : PySem.W.codeIn K cd_Hall_set_level "Hall.set_level" = true)
    (hkp_Hall_set_level : PySem.W.keepIn K (.ref f_Hall_set_level) = true)
    (ha_Hall_take_away : PySem.W.findIn K (.ref A5) "take_away" = some (some (.ref f_Hall_take_away)))
    (hi_Hall_take_away : PySem.W.isFn K (.ref f_Hall_take_away) = true)
    (hl_Hall_take_away : K.lookup f_Hall_take_away = some ⟨oc_Hall_take_away, od_Hall_take_away, .func (PySem.W.fnOf "take_away" "Hall.take_away" (defArgs s_Hall_take_away) (defBody s_Hall_take_away) (defScope s_Hall_take_away) .none kV_Hall_take_away dc_Hall_take_away pm_Hall_take_away an_Hall_take_away cd_Hall_take_away ct_Hall_take_away), sl_Hall_take_away⟩)
    (hcd_Hall_take_away : PySem.W.codeIn K cd_Hall_take_away "Hall.take_away" = true)
    (hkp_Hall_take_away : PySem.W.keepIn K (.ref f_Hall_take_away) = true)
    (ha__law_draw : PySem.W.nsIn K mainGlobals "_law_draw" = some (some (.ref f__law_draw)))
    (hl__law_draw : K.lookup f__law_draw = some ⟨oc__law_draw, od__law_draw, .func (PySem.W.fnOf "_law_draw" "_law_draw" (defArgs s__law_draw) (defBody s__law_draw) (defScope s__law_draw) .none kV__law_draw dc__law_draw pm__law_draw an__law_draw cd__law_draw ct__law_draw), sl__law_draw⟩)
    (hcd__law_draw : PySem.W.codeIn K cd__law_draw "_law_draw" = true)
    (hkp__law_draw : PySem.W.keepIn K (.ref f__law_draw) = true)
    (ha__law_pick : PySem.W.nsIn K mainGlobals "_law_pick" = some (some (.ref f__law_pick)))
    (hl__law_pick : K.lookup f__law_pick = some ⟨oc__law_pick, od__law_pick, .func (PySem.W.fnOf "_law_pick" "_law_pick" (defArgs s__law_pick) (defBody s__law_pick) (defScope s__law_pick) .none kV__law_pick dc__law_pick pm__law_pick an__law_pick cd__law_pick ct__law_pick), sl__law_pick⟩)
    (hcd__law_pick : PySem.W.codeIn K cd__law_pick "_law_pick" = true)
    (hkp__law_pick : PySem.W.keepIn K (.ref f__law_pick) = true)
    (ha__law_name : PySem.W.nsIn K mainGlobals "_law_name" = some (some (.ref f__law_name)))
    (hl__law_name : K.lookup f__law_name = some ⟨oc__law_name, od__law_name, .func (PySem.W.fnOf "_law_name" "_law_name" (defArgs s__law_name) (defBody s__law_name) (defScope s__law_name) .none kV__law_name dc__law_name pm__law_name an__law_name cd__law_name ct__law_name), sl__law_name⟩)
    (hcd__law_name : PySem.W.codeIn K cd__law_name "_law_name" = true)
    (hkp__law_name : PySem.W.keepIn K (.ref f__law_name) = true)
    (ha__law_gate : PySem.W.nsIn K mainGlobals "_law_gate" = some (some (.ref f__law_gate)))
    (hl__law_gate : K.lookup f__law_gate = some ⟨oc__law_gate, od__law_gate, .func (PySem.W.fnOf "_law_gate" "_law_gate" (defArgs s__law_gate) (defBody s__law_gate) (defScope s__law_gate) .none kV__law_gate dc__law_gate pm__law_gate an__law_gate cd__law_gate ct__law_gate), sl__law_gate⟩)
    (hcd__law_gate : PySem.W.codeIn K cd__law_gate "_law_gate" = true)
    (hkp__law_gate : PySem.W.keepIn K (.ref f__law_gate) = true)
    (ha__law_record : PySem.W.nsIn K mainGlobals "_law_record" = some (some (.ref f__law_record)))
    (hl__law_record : K.lookup f__law_record = some ⟨oc__law_record, od__law_record, .func (PySem.W.fnOf "_law_record" "_law_record" (defArgs s__law_record) (defBody s__law_record) (defScope s__law_record) .none kV__law_record dc__law_record pm__law_record an__law_record cd__law_record ct__law_record), sl__law_record⟩)
    (hcd__law_record : PySem.W.codeIn K cd__law_record "_law_record" = true)
    (hkp__law_record : PySem.W.keepIn K (.ref f__law_record) = true)
    (ha__law_refused : PySem.W.nsIn K mainGlobals "_law_refused" = some (some (.ref f__law_refused)))
    (hl__law_refused : K.lookup f__law_refused = some ⟨oc__law_refused, od__law_refused, .func (PySem.W.fnOf "_law_refused" "_law_refused" (defArgs s__law_refused) (defBody s__law_refused) (defScope s__law_refused) .none kV__law_refused dc__law_refused pm__law_refused an__law_refused cd__law_refused ct__law_refused), sl__law_refused⟩)
    (hcd__law_refused : PySem.W.codeIn K cd__law_refused "_law_refused" = true)
    (hkp__law_refused : PySem.W.keepIn K (.ref f__law_refused) = true)
    (ha_above : PySem.W.nsIn K mainGlobals "above" = some (some (.ref f_above)))
    (hl_above : K.lookup f_above = some ⟨oc_above, od_above, .func (PySem.W.fnOf "above" "above" (defArgs s_above) (defBody s_above) (defScope s_above) .none kV_above dc_above pm_above an_above cd_above ct_above), sl_above⟩)
    (hcd_above : PySem.W.codeIn K cd_above "above" = true)
    (hkp_above : PySem.W.keepIn K (.ref f_above) = true)
    (ha_Hall_level_of : PySem.W.findIn K (.ref A5) "level_of" = some (some (.ref f_Hall_level_of)))
    (hi_Hall_level_of : PySem.W.isFn K (.ref f_Hall_level_of) = true)
    (hl_Hall_level_of : K.lookup f_Hall_level_of = some ⟨oc_Hall_level_of, od_Hall_level_of, .func (PySem.W.fnOf "level_of" "Hall.level_of" (defArgs s_Hall_level_of) (defBody s_Hall_level_of) (defScope s_Hall_level_of) .none kV_Hall_level_of dc_Hall_level_of pm_Hall_level_of an_Hall_level_of cd_Hall_level_of ct_Hall_level_of), sl_Hall_level_of⟩)
    (hcd_Hall_level_of : PySem.W.codeIn K cd_Hall_level_of "Hall.level_of" = true)
    (hkp_Hall_level_of : PySem.W.keepIn K (.ref f_Hall_level_of) = true)
    (ha_Hall_is_told : PySem.W.findIn K (.ref A5) "is_told" = some (some (.ref f_Hall_is_told)))
    (hi_Hall_is_told : PySem.W.isFn K (.ref f_Hall_is_told) = true)
    (hl_Hall_is_told : K.lookup f_Hall_is_told = some ⟨oc_Hall_is_told, od_Hall_is_told, .func (PySem.W.fnOf "is_told" "Hall.is_told" (defArgs s_Hall_is_told) (defBody s_Hall_is_told) (defScope s_Hall_is_told) .none kV_Hall_is_told dc_Hall_is_told pm_Hall_is_told an_Hall_is_told cd_Hall_is_told ct_Hall_is_told), sl_Hall_is_told⟩)
    (hcd_Hall_is_told : PySem.W.codeIn K cd_Hall_is_told "Hall.is_told" = true)
    (hkp_Hall_is_told : PySem.W.keepIn K (.ref f_Hall_is_told) = true)
    (ha_Hall_ways : PySem.W.findIn K (.ref A5) "ways" = some (some (.ref f_Hall_ways)))
    (hi_Hall_ways : PySem.W.isFn K (.ref f_Hall_ways) = true)
    (hl_Hall_ways : K.lookup f_Hall_ways = some ⟨oc_Hall_ways, od_Hall_ways, .func (PySem.W.fnOf "ways" "Hall.ways" (defArgs s_Hall_ways) (defBody s_Hall_ways) (defScope s_Hall_ways) .none kV_Hall_ways dc_Hall_ways pm_Hall_ways an_Hall_ways cd_Hall_ways ct_Hall_ways), sl_Hall_ways⟩)
    (hcd_Hall_ways : PySem.W.codeIn K cd_Hall_ways "Hall.ways" = true)
    (hkp_Hall_ways : PySem.W.keepIn K (.ref f_Hall_ways) = true)
    (ha_level_word : PySem.W.nsIn K mainGlobals "level_word" = some (some (.ref f_level_word)))
    (hl_level_word : K.lookup f_level_word = some ⟨oc_level_word, od_level_word, .func (PySem.W.fnOf "level_word" "level_word" (defArgs s_level_word) (defBody s_level_word) (defScope s_level_word) .none kV_level_word dc_level_word pm_level_word an_level_word cd_level_word ct_level_word), sl_level_word⟩)
    (hcd_level_word : PySem.W.codeIn K cd_level_word "level_word" = true)
    (hkp_level_word : PySem.W.keepIn K (.ref f_level_word) = true)
    (ha_field_text : PySem.W.nsIn K mainGlobals "field_text" = some (some (.ref f_field_text)))
    (hl_field_text : K.lookup f_field_text = some ⟨oc_field_text, od_field_text, .func (PySem.W.fnOf "field_text" "field_text" (defArgs s_field_text) (defBody s_field_text) (defScope s_field_text) .none kV_field_text dc_field_text pm_field_text an_field_text cd_field_text ct_field_text), sl_field_text⟩)
    (hcd_field_text : PySem.W.codeIn K cd_field_text "field_text" = true)
    (hkp_field_text : PySem.W.keepIn K (.ref f_field_text) = true)
    (ha_laid_part : PySem.W.nsIn K mainGlobals "laid_part" = some (some (.ref f_laid_part)))
    (hl_laid_part : K.lookup f_laid_part = some ⟨oc_laid_part, od_laid_part, .func (PySem.W.fnOf "laid_part" "laid_part" (defArgs s_laid_part) (defBody s_laid_part) (defScope s_laid_part) .none kV_laid_part dc_laid_part pm_laid_part an_laid_part cd_laid_part ct_laid_part), sl_laid_part⟩)
    (hcd_laid_part : PySem.W.codeIn K cd_laid_part "laid_part" = true)
    (hkp_laid_part : PySem.W.keepIn K (.ref f_laid_part) = true)
    (ha_laid : PySem.W.nsIn K mainGlobals "laid" = some (some (.ref f_laid)))
    (hl_laid : K.lookup f_laid = some ⟨oc_laid, od_laid, .func (PySem.W.fnOf "laid" "laid" (defArgs s_laid) (defBody s_laid) (defScope s_laid) .none kV_laid dc_laid pm_laid an_laid cd_laid ct_laid), sl_laid⟩)
    (hcd_laid : PySem.W.codeIn K cd_laid "laid" = true)
    (hkp_laid : PySem.W.keepIn K (.ref f_laid) = true)
    (ha_is_under : PySem.W.nsIn K mainGlobals "is_under" = some (some (.ref f_is_under)))
    (hl_is_under : K.lookup f_is_under = some ⟨oc_is_under, od_is_under, .func (PySem.W.fnOf "is_under" "is_under" (defArgs s_is_under) (defBody s_is_under) (defScope s_is_under) .none kV_is_under dc_is_under pm_is_under an_is_under cd_is_under ct_is_under), sl_is_under⟩)
    (hcd_is_under : PySem.W.codeIn K cd_is_under "is_under" = true)
    (hkp_is_under : PySem.W.keepIn K (.ref f_is_under) = true)
    (ha_passes : PySem.W.nsIn K mainGlobals "passes" = some (some (.ref f_passes)))
    (hl_passes : K.lookup f_passes = some ⟨oc_passes, od_passes, .func (PySem.W.fnOf "passes" "passes" (defArgs s_passes) (defBody s_passes) (defScope s_passes) .none kV_passes dc_passes pm_passes an_passes cd_passes ct_passes), sl_passes⟩)
    (hcd_passes : PySem.W.codeIn K cd_passes "passes" = true)
    (hkp_passes : PySem.W.keepIn K (.ref f_passes) = true)
    (ha_Writer_take : PySem.W.findIn K (.ref A4) "take" = some (some (.ref f_Writer_take)))
    (hi_Writer_take : PySem.W.isFn K (.ref f_Writer_take) = true)
    (hl_Writer_take : K.lookup f_Writer_take = some ⟨oc_Writer_take, od_Writer_take, .func (PySem.W.fnOf "take" "Writer.take" (defArgs s_Writer_take) (defBody s_Writer_take) (defScope s_Writer_take) .none kV_Writer_take dc_Writer_take pm_Writer_take an_Writer_take cd_Writer_take ct_Writer_take), sl_Writer_take⟩)
    (hcd_Writer_take : PySem.W.codeIn K cd_Writer_take "Writer.take" = true)
    (hkp_Writer_take : PySem.W.keepIn K (.ref f_Writer_take) = true)
    (ha_Hall_tell : PySem.W.findIn K (.ref A5) "tell" = some (some (.ref f_Hall_tell)))
    (hi_Hall_tell : PySem.W.isFn K (.ref f_Hall_tell) = true)
    (hl_Hall_tell : K.lookup f_Hall_tell = some ⟨oc_Hall_tell, od_Hall_tell, .func (PySem.W.fnOf "tell" "Hall.tell" (defArgs s_Hall_tell) (defBody s_Hall_tell) (defScope s_Hall_tell) .none kV_Hall_tell dc_Hall_tell pm_Hall_tell an_Hall_tell cd_Hall_tell ct_Hall_tell), sl_Hall_tell⟩)
    (hcd_Hall_tell : PySem.W.codeIn K cd_Hall_tell "Hall.tell" = true)
    (hkp_Hall_tell : PySem.W.keepIn K (.ref f_Hall_tell) = true)
    (ha__law_due : PySem.W.nsIn K mainGlobals "_law_due" = some (some (.ref f__law_due)))
    (hl__law_due : K.lookup f__law_due = some ⟨oc__law_due, od__law_due, .func (PySem.W.fnOf "_law_due" "_law_due" (defArgs s__law_due) (defBody s__law_due) (defScope s__law_due) .none kV__law_due dc__law_due pm__law_due an__law_due cd__law_due ct__law_due), sl__law_due⟩)
    (hcd__law_due : PySem.W.codeIn K cd__law_due "_law_due" = true)
    (hkp__law_due : PySem.W.keepIn K (.ref f__law_due) = true)
    (ha__law_told_holds : PySem.W.nsIn K mainGlobals "_law_told_holds" = some (some (.ref f__law_told_holds)))
    (hl__law_told_holds : K.lookup f__law_told_holds = some ⟨oc__law_told_holds, od__law_told_holds, .func (PySem.W.fnOf "_law_told_holds" "_law_told_holds" (defArgs s__law_told_holds) (defBody s__law_told_holds) (defScope s__law_told_holds) .none kV__law_told_holds dc__law_told_holds pm__law_told_holds an__law_told_holds cd__law_told_holds ct__law_told_holds), sl__law_told_holds⟩)
    (hcd__law_told_holds : PySem.W.codeIn K cd__law_told_holds "_law_told_holds" = true)
    (hkp__law_told_holds : PySem.W.keepIn K (.ref f__law_told_holds) = true)
    (ha_strength : PySem.W.nsIn K mainGlobals "strength" = some (some (.ref f_strength)))
    (hl_strength : K.lookup f_strength = some ⟨oc_strength, od_strength, .func (PySem.W.fnOf "strength" "strength" (defArgs s_strength) (defBody s_strength) (defScope s_strength) .none kV_strength dc_strength pm_strength an_strength cd_strength ct_strength), sl_strength⟩)
    (hcd_strength : PySem.W.codeIn K cd_strength "strength" = true)
    (hkp_strength : PySem.W.keepIn K (.ref f_strength) = true)
    (ha_shown_within : PySem.W.nsIn K mainGlobals "shown_within" = some (some (.ref f_shown_within)))
    (hl_shown_within : K.lookup f_shown_within = some ⟨oc_shown_within, od_shown_within, .func (PySem.W.fnOf "shown_within" "shown_within" (defArgs s_shown_within) (defBody s_shown_within) (defScope s_shown_within) .none kV_shown_within dc_shown_within pm_shown_within an_shown_within cd_shown_within ct_shown_within), sl_shown_within⟩)
    (hcd_shown_within : PySem.W.codeIn K cd_shown_within "shown_within" = true)
    (hkp_shown_within : PySem.W.keepIn K (.ref f_shown_within) = true)
    (ha_shown : PySem.W.nsIn K mainGlobals "shown" = some (some (.ref f_shown)))
    (hl_shown : K.lookup f_shown = some ⟨oc_shown, od_shown, .func (PySem.W.fnOf "shown" "shown" (defArgs s_shown) (defBody s_shown) (defScope s_shown) .none kV_shown dc_shown pm_shown an_shown cd_shown ct_shown), sl_shown⟩)
    (hcd_shown : PySem.W.codeIn K cd_shown "shown" = true)
    (hkp_shown : PySem.W.keepIn K (.ref f_shown) = true)
    (ha_law : PySem.W.nsIn K mainGlobals "law" = some (some (.ref f_law)))
    (hl_law : K.lookup f_law = some ⟨oc_law, od_law, .func (PySem.W.fnOf "law" "law" (defArgs s_law) (defBody s_law) (defScope s_law) .none kV_law dc_law pm_law an_law cd_law ct_law), sl_law⟩)
    (hcd_law : PySem.W.codeIn K cd_law "law" = true)
    (hkp_law : PySem.W.keepIn K (.ref f_law) = true)
    (main : ∀ ns : List Int, ns.length ≤ 63 → ∃ O, fn_law [.scr (ns.map D.int)] [] = .ok (.bl true) O) :
    ∃ fd : FuncData, (∀ (s : Shared) (u : Value), BindsTo s fd ⟨[u], []⟩ [("_law_script", u)]) ∧ ∀ base : Heap, K.In base → base.Ns mainGlobals mg → FnOk P w K mg base (L2.CX P w) 106 fa fd ["_law_script"] (spLaw K) := by
  have T : Txt K mg A6 A4 A5 X3 X4 X5 := ⟨PySem.W.mg_of X G hg_BadGate, ⟨_, { gC := PySem.W.mg_of X G hg_BadGate, cls := ⟨_, _, _, _, _, _, _, _, _, _, _, _, _, _, _, hxl_BadGate, hrv_BadGate⟩, sa := hsa_BadGate, ga := hga_BadGate, gg := hgg_BadGate, noN := hnb_BadGate, iC := hia_BadGate, tC := hit_BadGate, kC := hk_BadGate, exC := hs_BadGate, tyC := ht_BadGate, hdC := hhd_BadGate, te := exm_mk hs_BadGate hi_BadGate ht_BadGate hm_BadGate_BadGate, fn := ⟨_, _, _, _, _, _, _, _, _, _, _, _, _, _, hil_BadGate, hic_BadGate⟩ }⟩, (fun j A' q => match j, q with | 3, q => by cases q; exact exm_mk hs_BadGate hi_BadGate ht_BadGate hm_BadGate_BadGate | 4, q => by cases q; exact exm_mk hs_BadGate hi_BadGate ht_BadGate hm_BadForm_BadGate | 5, q => by cases q; exact exm_mk hs_BadGate hi_BadGate ht_BadGate hm_NoWriter_BadGate), PySem.W.mg_of X G hg_BadForm, ⟨_, { gC := PySem.W.mg_of X G hg_BadForm, cls := ⟨_, _, _, _, _, _, _, _, _, _, _, _, _, _, _, hxl_BadForm, hrv_BadForm⟩, sa := hsa_BadForm, ga := hga_BadForm, gg := hgg_BadForm, noN := hnb_BadForm, iC := hia_BadForm, tC := hit_BadForm, kC := hk_BadForm, exC := hs_BadForm, tyC := ht_BadForm, hdC := hhd_BadForm, te := exm_mk hs_BadForm hi_BadForm ht_BadForm hm_BadForm_BadForm, fn := ⟨_, _, _, _, _, _, _, _, _, _, _, _, _, _, hil_BadForm, hic_BadForm⟩ }⟩, (fun j A' q => match j, q with | 3, q => by cases q; exact exm_mk hs_BadForm hi_BadForm ht_BadForm hm_BadGate_BadForm | 4, q => by cases q; exact exm_mk hs_BadForm hi_BadForm ht_BadForm hm_BadForm_BadForm | 5, q => by cases q; exact exm_mk hs_BadForm hi_BadForm ht_BadForm hm_NoWriter_BadForm), PySem.W.mg_of X G hg_NoWriter, ⟨hq_NoWriter, hk_NoWriter, hs_NoWriter, ht_NoWriter⟩, (fun j A' q => match j, q with | 3, q => by cases q; exact exm_mk hs_NoWriter hi_NoWriter ht_NoWriter hm_BadGate_NoWriter | 4, q => by cases q; exact exm_mk hs_NoWriter hi_NoWriter ht_NoWriter hm_BadForm_NoWriter | 5, q => by cases q; exact exm_mk hs_NoWriter hi_NoWriter ht_NoWriter hm_NoWriter_NoWriter), PySem.W.mg_none_of X G hn_all, PySem.W.mg_none_of X G hn_any, PySem.W.mg_none_of X G hn_dict, PySem.W.mg_none_of X G hn_int, PySem.W.mg_none_of X G hn_isinstance, PySem.W.mg_none_of X G hn_len, PySem.W.mg_none_of X G hn_list, PySem.W.mg_none_of X G hn_min, PySem.W.mg_none_of X G hn_range, PySem.W.mg_none_of X G hn_sorted, PySem.W.mg_none_of X G hn_str, PySem.W.mg_none_of X G hn_tuple, cst_int X G hc_DEEP_MOST_gatetext, cst_int X G hc_DEEP_MOST_names, cst_strs (ls := [[109, 111, 109, 101, 110, 116], [108, 101, 118, 101, 108], [110, 97, 109, 101], [119, 111, 114, 100, 115]]) X G hc_FIELDS hl_FIELDS (by decide +kernel) hi_FIELDS hs_FIELDS, cst_str X G he_MARKS hc_MARKS, cst_int X G hc_PART_MOST, cst_str X G he_SIGNS_gatetext hc_SIGNS_gatetext, cst_str X G he_SIGNS_names hc_SIGNS_names, cst_int X G hc_TOP_LEVEL, cst_int X G hc_WIDE_MOST, cst_strs (ls := [[97, 108, 108], [100, 101, 98, 117, 103], [105, 110, 102, 111], [119, 97, 114, 110], [101, 114, 114, 111, 114], [102, 97, 116, 97, 108]]) X G hc_WORDS hl_WORDS (by decide +kernel) hi_WORDS hs_WORDS⟩
  have Fa : Facts (mkC K A6 A4 A5 X3 X4 X5) := by
    refine ⟨fun c A q => ?_, fun c A f q r => ?_⟩
    · match c, q with
      | 6, q => cases q; exact cls_mk hfc_Reader
      | 4, q => cases q; exact cls_mk hfc_Writer
      | 5, q => cases q; exact cls_mk hfc_Hall
    · match c, q, f, r with
      | 6, q, 20, r => cases q; exact hna_Reader_left
      | 6, q, 21, r => cases q; exact hna_Reader_deep
      | 4, q, 12, r => cases q; exact hna_Writer_name
      | 4, q, 13, r => cases q; exact hna_Writer_least
      | 4, q, 14, r => cases q; exact hna_Writer_gate
      | 4, q, 15, r => cases q; exact hna_Writer_form
      | 4, q, 6, r => cases q; exact hna_Writer_texts
      | 5, q, 16, r => cases q; exact hna_Hall_levels
      | 5, q, 17, r => cases q; exact hna_Hall_closed
      | 5, q, 18, r => cases q; exact hna_Hall_writers
      | 5, q, 0, r => cases q; exact hna_Hall_many
      | 5, q, 19, r => cases q; exact hna_Hall_still
  have b_Hall_init : BindOk "__init__" "Hall.__init__" s_Hall_init ["self"] := fun _ _ _ _ _ _ us hl => match us, hl with | [_], _ => rfl
  have F_Hall_init : FactF K "__init__" "Hall.__init__" s_Hall_init f_Hall_init := ⟨_, _, _, _, _, _, _, _, _, hl_Hall_init, hcd_Hall_init, hkp_Hall_init⟩
  have R_Hall_init : RawK K mg (mkC K A6 A4 A5 X3 X4 X5) "Hall" 5 "Hall.__init__" s_Hall_init ["self"] := rawK_mk X G b_Hall_init rfl ha_Hall hmk_Hall hkc_Hall ha_Hall_init hi_Hall_init F_Hall_init
  have b_Writer_init : BindOk "__init__" "Writer.__init__" s_Writer_init ["self", "name", "least", "gate", "form"] := fun _ _ _ _ _ _ us hl => match us, hl with | [_, _, _, _, _], _ => rfl
  have F_Writer_init : FactF K "__init__" "Writer.__init__" s_Writer_init f_Writer_init := ⟨_, _, _, _, _, _, _, _, _, hl_Writer_init, hcd_Writer_init, hkp_Writer_init⟩
  have R_Writer_init : RawK K mg (mkC K A6 A4 A5 X3 X4 X5) "Writer" 4 "Writer.__init__" s_Writer_init ["self", "name", "least", "gate", "form"] := rawK_mk X G b_Writer_init rfl ha_Writer hmk_Writer hkc_Writer ha_Writer_init hi_Writer_init F_Writer_init
  have b_read_field : BindOk "read_field" "read_field" s_read_field ["text"] := fun _ _ _ _ _ _ us hl => match us, hl with | [_], _ => rfl
  have F_read_field : FactF K "read_field" "read_field" s_read_field f_read_field := ⟨_, _, _, _, _, _, _, _, _, hl_read_field, hcd_read_field, hkp_read_field⟩
  have R_read_field : RawF K mg "read_field" s_read_field ["text"] := rawF_mk X G b_read_field ha_read_field F_read_field
  have b_with_text : BindOk "with_text" "with_text" s_with_text ["parts", "text"] := fun _ _ _ _ _ _ us hl => match us, hl with | [_, _], _ => rfl
  have F_with_text : FactF K "with_text" "with_text" s_with_text f_with_text := ⟨_, _, _, _, _, _, _, _, _, hl_with_text, hcd_with_text, hkp_with_text⟩
  have R_with_text : RawF K mg "with_text" s_with_text ["parts", "text"] := rawF_mk X G b_with_text ha_with_text F_with_text
  have b_read_form : BindOk "read_form" "read_form" s_read_form ["text"] := fun _ _ _ _ _ _ us hl => match us, hl with | [_], _ => rfl
  have F_read_form : FactF K "read_form" "read_form" s_read_form f_read_form := ⟨_, _, _, _, _, _, _, _, _, hl_read_form, hcd_read_form, hkp_read_form⟩
  have R_read_form : RawF K mg "read_form" s_read_form ["text"] := rawF_mk X G b_read_form ha_read_form F_read_form
  have b_tokens : BindOk "tokens" "tokens" s_tokens ["text"] := fun _ _ _ _ _ _ us hl => match us, hl with | [_], _ => rfl
  have F_tokens : FactF K "tokens" "tokens" s_tokens f_tokens := ⟨_, _, _, _, _, _, _, _, _, hl_tokens, hcd_tokens, hkp_tokens⟩
  have R_tokens : RawF K mg "tokens" s_tokens ["text"] := rawF_mk X G b_tokens ha_tokens F_tokens
  have b_Reader_init : BindOk "__init__" "Reader.__init__" s_Reader_init ["self", "text"] := fun _ _ _ _ _ _ us hl => match us, hl with | [_, _], _ => rfl
  have F_Reader_init : FactF K "__init__" "Reader.__init__" s_Reader_init f_Reader_init := ⟨_, _, _, _, _, _, _, _, _, hl_Reader_init, hcd_Reader_init, hkp_Reader_init⟩
  have R_Reader_init : RawK K mg (mkC K A6 A4 A5 X3 X4 X5) "Reader" 6 "Reader.__init__" s_Reader_init ["self", "text"] := rawK_mk X G b_Reader_init rfl ha_Reader hmk_Reader hkc_Reader ha_Reader_init hi_Reader_init F_Reader_init
  have b_Reader_next_word : BindOk "next_word" "Reader.next_word" s_Reader_next_word ["self"] := fun _ _ _ _ _ _ us hl => match us, hl with | [_], _ => rfl
  have F_Reader_next_word : FactF K "next_word" "Reader.next_word" s_Reader_next_word f_Reader_next_word := ⟨_, _, _, _, _, _, _, _, _, hl_Reader_next_word, hcd_Reader_next_word, hkp_Reader_next_word⟩
  have R_Reader_next_word : RawM K (mkC K A6 A4 A5 X3 X4 X5) 6 "next_word" "Reader.next_word" s_Reader_next_word ["self"] := rawM_mk b_Reader_next_word rfl ha_Reader_next_word hi_Reader_next_word F_Reader_next_word
  have b_Reader_fail : BindOk "fail" "Reader.fail" s_Reader_fail ["self"] := fun _ _ _ _ _ _ us hl => match us, hl with | [_], _ => rfl
  have F_Reader_fail : FactF K "fail" "Reader.fail" s_Reader_fail f_Reader_fail := ⟨_, _, _, _, _, _, _, _, _, hl_Reader_fail, hcd_Reader_fail, hkp_Reader_fail⟩
  have R_Reader_fail : RawM K (mkC K A6 A4 A5 X3 X4 X5) 6 "fail" "Reader.fail" s_Reader_fail ["self"] := rawM_mk b_Reader_fail rfl ha_Reader_fail hi_Reader_fail F_Reader_fail
  have b_Reader_pass_word : BindOk "pass_word" "Reader.pass_word" s_Reader_pass_word ["self"] := fun _ _ _ _ _ _ us hl => match us, hl with | [_], _ => rfl
  have F_Reader_pass_word : FactF K "pass_word" "Reader.pass_word" s_Reader_pass_word f_Reader_pass_word := ⟨_, _, _, _, _, _, _, _, _, hl_Reader_pass_word, hcd_Reader_pass_word, hkp_Reader_pass_word⟩
  have R_Reader_pass_word : RawM K (mkC K A6 A4 A5 X3 X4 X5) 6 "pass_word" "Reader.pass_word" s_Reader_pass_word ["self"] := rawM_mk b_Reader_pass_word rfl ha_Reader_pass_word hi_Reader_pass_word F_Reader_pass_word
  have b_is_name : BindOk "is_name" "is_name" s_is_name ["thing"] := fun _ _ _ _ _ _ us hl => match us, hl with | [_], _ => rfl
  have F_is_name : FactF K "is_name" "is_name" s_is_name f_is_name := ⟨_, _, _, _, _, _, _, _, _, hl_is_name, hcd_is_name, hkp_is_name⟩
  have R_is_name : RawF K mg "is_name" s_is_name ["thing"] := rawF_mk X G b_is_name ha_is_name F_is_name
  have b_Reader_asked : BindOk "asked" "Reader.asked" s_Reader_asked ["self", "word"] := fun _ _ _ _ _ _ us hl => match us, hl with | [_, _], _ => rfl
  have F_Reader_asked : FactF K "asked" "Reader.asked" s_Reader_asked f_Reader_asked := ⟨_, _, _, _, _, _, _, _, _, hl_Reader_asked, hcd_Reader_asked, hkp_Reader_asked⟩
  have R_Reader_asked : RawM K (mkC K A6 A4 A5 X3 X4 X5) 6 "asked" "Reader.asked" s_Reader_asked ["self", "word"] := rawM_mk b_Reader_asked rfl ha_Reader_asked hi_Reader_asked F_Reader_asked
  have b_Reader_any_of : BindOk "any_of" "Reader.any_of" s_Reader_any_of ["self"] := fun _ _ _ _ _ _ us hl => match us, hl with | [_], _ => rfl
  have F_Reader_any_of : FactF K "any_of" "Reader.any_of" s_Reader_any_of f_Reader_any_of := ⟨_, _, _, _, _, _, _, _, _, hl_Reader_any_of, hcd_Reader_any_of, hkp_Reader_any_of⟩
  have R_Reader_any_of : RawM K (mkC K A6 A4 A5 X3 X4 X5) 6 "any_of" "Reader.any_of" s_Reader_any_of ["self"] := rawM_mk b_Reader_any_of rfl ha_Reader_any_of hi_Reader_any_of F_Reader_any_of
  have b_Reader_all_of : BindOk "all_of" "Reader.all_of" s_Reader_all_of ["self"] := fun _ _ _ _ _ _ us hl => match us, hl with | [_], _ => rfl
  have F_Reader_all_of : FactF K "all_of" "Reader.all_of" s_Reader_all_of f_Reader_all_of := ⟨_, _, _, _, _, _, _, _, _, hl_Reader_all_of, hcd_Reader_all_of, hkp_Reader_all_of⟩
  have R_Reader_all_of : RawM K (mkC K A6 A4 A5 X3 X4 X5) 6 "all_of" "Reader.all_of" s_Reader_all_of ["self"] := rawM_mk b_Reader_all_of rfl ha_Reader_all_of hi_Reader_all_of F_Reader_all_of
  have b_Reader_one : BindOk "one" "Reader.one" s_Reader_one ["self"] := fun _ _ _ _ _ _ us hl => match us, hl with | [_], _ => rfl
  have F_Reader_one : FactF K "one" "Reader.one" s_Reader_one f_Reader_one := ⟨_, _, _, _, _, _, _, _, _, hl_Reader_one, hcd_Reader_one, hkp_Reader_one⟩
  have R_Reader_one : RawM K (mkC K A6 A4 A5 X3 X4 X5) 6 "one" "Reader.one" s_Reader_one ["self"] := rawM_mk b_Reader_one rfl ha_Reader_one hi_Reader_one F_Reader_one
  have b_read_gate : BindOk "read_gate" "read_gate" s_read_gate ["text"] := fun _ _ _ _ _ _ us hl => match us, hl with | [_], _ => rfl
  have F_read_gate : FactF K "read_gate" "read_gate" s_read_gate f_read_gate := ⟨_, _, _, _, _, _, _, _, _, hl_read_gate, hcd_read_gate, hkp_read_gate⟩
  have R_read_gate : RawF K mg "read_gate" s_read_gate ["text"] := rawF_mk X G b_read_gate ha_read_gate F_read_gate
  have b_Hall_add_writer : BindOk "add_writer" "Hall.add_writer" s_Hall_add_writer ["self", "name", "least", "gate", "form"] := fun _ _ _ _ _ _ us hl => match us, hl with | [_, _, _, _, _], _ => rfl
  have F_Hall_add_writer : FactF K "add_writer" "Hall.add_writer" s_Hall_add_writer f_Hall_add_writer := ⟨_, _, _, _, _, _, _, _, _, hl_Hall_add_writer, hcd_Hall_add_writer, hkp_Hall_add_writer⟩
  have R_Hall_add_writer : RawM K (mkC K A6 A4 A5 X3 X4 X5) 5 "add_writer" "Hall.add_writer" s_Hall_add_writer ["self", "name", "least", "gate", "form"] := rawM_mk b_Hall_add_writer rfl ha_Hall_add_writer hi_Hall_add_writer F_Hall_add_writer
  have b_Hall_close : BindOk "close" "Hall.close" s_Hall_close ["self", "name", "closed"] := fun _ _ _ _ _ _ us hl => match us, hl with | [_, _, _], _ => rfl
  have F_Hall_close : FactF K "close" "Hall.close" s_Hall_close f_Hall_close := ⟨_, _, _, _, _, _, _, _, _, hl_Hall_close, hcd_Hall_close, hkp_Hall_close⟩
  have R_Hall_close : RawM K (mkC K A6 A4 A5 X3 X4 X5) 5 "close" "Hall.close" s_Hall_close ["self", "name", "closed"] := rawM_mk b_Hall_close rfl ha_Hall_close hi_Hall_close F_Hall_close
  have b_Hall_writer_at : BindOk "writer_at" "Hall.writer_at" s_Hall_writer_at ["self", "number"] := fun _ _ _ _ _ _ us hl => match us, hl with | [_, _], _ => rfl
  have F_Hall_writer_at : FactF K "writer_at" "Hall.writer_at" s_Hall_writer_at f_Hall_writer_at := ⟨_, _, _, _, _, _, _, _, _, hl_Hall_writer_at, hcd_Hall_writer_at, hkp_Hall_writer_at⟩
  have R_Hall_writer_at : RawM K (mkC K A6 A4 A5 X3 X4 X5) 5 "writer_at" "Hall.writer_at" s_Hall_writer_at ["self", "number"] := rawM_mk b_Hall_writer_at rfl ha_Hall_writer_at hi_Hall_writer_at F_Hall_writer_at
  have b_Hall_rows : BindOk "rows" "Hall.rows" s_Hall_rows ["self", "number"] := fun _ _ _ _ _ _ us hl => match us, hl with | [_, _], _ => rfl
  have F_Hall_rows : FactF K "rows" "Hall.rows" s_Hall_rows f_Hall_rows := ⟨_, _, _, _, _, _, _, _, _, hl_Hall_rows, hcd_Hall_rows, hkp_Hall_rows⟩
  have R_Hall_rows : RawM K (mkC K A6 A4 A5 X3 X4 X5) 5 "rows" "Hall.rows" s_Hall_rows ["self", "number"] := rawM_mk b_Hall_rows rfl ha_Hall_rows hi_Hall_rows F_Hall_rows
  have b_Hall_set_level : BindOk "set_level" "Hall.set_level" s_Hall_set_level ["self", "name", "level"] := fun _ _ _ _ _ _ us hl => match us, hl with | [_, _, _], _ => rfl
  have F_Hall_set_level : FactF K "set_level" "Hall.set_level" s_Hall_set_level f_Hall_set_level := ⟨_, _, _, _, _, _, _, _, _, hl_Hall_set_level, hcd_Hall_set_level, hkp_Hall_set_level⟩
  have R_Hall_set_level : RawM K (mkC K A6 A4 A5 X3 X4 X5) 5 "set_level" "Hall.set_level" s_Hall_set_level ["self", "name", "level"] := rawM_mk b_Hall_set_level rfl ha_Hall_set_level hi_Hall_set_level F_Hall_set_level
  have b_Hall_take_away : BindOk "take_away" "Hall.take_away" s_Hall_take_away ["self", "number"] := fun _ _ _ _ _ _ us hl => match us, hl with | [_, _], _ => rfl
  have F_Hall_take_away : FactF K "take_away" "Hall.take_away" s_Hall_take_away f_Hall_take_away := ⟨_, _, _, _, _, _, _, _, _, hl_Hall_take_away, hcd_Hall_take_away, hkp_Hall_take_away⟩
  have R_Hall_take_away : RawM K (mkC K A6 A4 A5 X3 X4 X5) 5 "take_away" "Hall.take_away" s_Hall_take_away ["self", "number"] := rawM_mk b_Hall_take_away rfl ha_Hall_take_away hi_Hall_take_away F_Hall_take_away
  have b__law_draw : BindOk "_law_draw" "_law_draw" s__law_draw ["_law_script", "_law_town", "_law_many"] := fun _ _ _ _ _ _ us hl => match us, hl with | [_, _, _], _ => rfl
  have F__law_draw : FactF K "_law_draw" "_law_draw" s__law_draw f__law_draw := ⟨_, _, _, _, _, _, _, _, _, hl__law_draw, hcd__law_draw, hkp__law_draw⟩
  have R__law_draw : RawF K mg "_law_draw" s__law_draw ["_law_script", "_law_town", "_law_many"] := rawF_mk X G b__law_draw ha__law_draw F__law_draw
  have b__law_pick : BindOk "_law_pick" "_law_pick" s__law_pick ["_law_script", "_law_town", "_law_some"] := fun _ _ _ _ _ _ us hl => match us, hl with | [_, _, _], _ => rfl
  have F__law_pick : FactF K "_law_pick" "_law_pick" s__law_pick f__law_pick := ⟨_, _, _, _, _, _, _, _, _, hl__law_pick, hcd__law_pick, hkp__law_pick⟩
  have R__law_pick : RawF K mg "_law_pick" s__law_pick ["_law_script", "_law_town", "_law_some"] := rawF_mk X G b__law_pick ha__law_pick F__law_pick
  have b__law_name : BindOk "_law_name" "_law_name" s__law_name ["_law_script", "_law_town"] := fun _ _ _ _ _ _ us hl => match us, hl with | [_, _], _ => rfl
  have F__law_name : FactF K "_law_name" "_law_name" s__law_name f__law_name := ⟨_, _, _, _, _, _, _, _, _, hl__law_name, hcd__law_name, hkp__law_name⟩
  have R__law_name : RawF K mg "_law_name" s__law_name ["_law_script", "_law_town"] := rawF_mk X G b__law_name ha__law_name F__law_name
  have b__law_gate : BindOk "_law_gate" "_law_gate" s__law_gate ["_law_script", "_law_town", "_law_deep"] := fun _ _ _ _ _ _ us hl => match us, hl with | [_, _, _], _ => rfl
  have F__law_gate : FactF K "_law_gate" "_law_gate" s__law_gate f__law_gate := ⟨_, _, _, _, _, _, _, _, _, hl__law_gate, hcd__law_gate, hkp__law_gate⟩
  have R__law_gate : RawF K mg "_law_gate" s__law_gate ["_law_script", "_law_town", "_law_deep"] := rawF_mk X G b__law_gate ha__law_gate F__law_gate
  have b__law_record : BindOk "_law_record" "_law_record" s__law_record ["_law_script", "_law_town", "_law_moment"] := fun _ _ _ _ _ _ us hl => match us, hl with | [_, _, _], _ => rfl
  have F__law_record : FactF K "_law_record" "_law_record" s__law_record f__law_record := ⟨_, _, _, _, _, _, _, _, _, hl__law_record, hcd__law_record, hkp__law_record⟩
  have R__law_record : RawF K mg "_law_record" s__law_record ["_law_script", "_law_town", "_law_moment"] := rawF_mk X G b__law_record ha__law_record F__law_record
  have b__law_refused : BindOk "_law_refused" "_law_refused" s__law_refused ["_law_hall", "_law_name_here", "_law_numbers"] := fun _ _ _ _ _ _ us hl => match us, hl with | [_, _, _], _ => rfl
  have F__law_refused : FactF K "_law_refused" "_law_refused" s__law_refused f__law_refused := ⟨_, _, _, _, _, _, _, _, _, hl__law_refused, hcd__law_refused, hkp__law_refused⟩
  have R__law_refused : RawF K mg "_law_refused" s__law_refused ["_law_hall", "_law_name_here", "_law_numbers"] := rawF_mk X G b__law_refused ha__law_refused F__law_refused
  have b_above : BindOk "above" "above" s_above ["name"] := fun _ _ _ _ _ _ us hl => match us, hl with | [_], _ => rfl
  have F_above : FactF K "above" "above" s_above f_above := ⟨_, _, _, _, _, _, _, _, _, hl_above, hcd_above, hkp_above⟩
  have R_above : RawF K mg "above" s_above ["name"] := rawF_mk X G b_above ha_above F_above
  have b_Hall_level_of : BindOk "level_of" "Hall.level_of" s_Hall_level_of ["self", "name"] := fun _ _ _ _ _ _ us hl => match us, hl with | [_, _], _ => rfl
  have F_Hall_level_of : FactF K "level_of" "Hall.level_of" s_Hall_level_of f_Hall_level_of := ⟨_, _, _, _, _, _, _, _, _, hl_Hall_level_of, hcd_Hall_level_of, hkp_Hall_level_of⟩
  have R_Hall_level_of : RawM K (mkC K A6 A4 A5 X3 X4 X5) 5 "level_of" "Hall.level_of" s_Hall_level_of ["self", "name"] := rawM_mk b_Hall_level_of rfl ha_Hall_level_of hi_Hall_level_of F_Hall_level_of
  have b_Hall_is_told : BindOk "is_told" "Hall.is_told" s_Hall_is_told ["self", "name", "level"] := fun _ _ _ _ _ _ us hl => match us, hl with | [_, _, _], _ => rfl
  have F_Hall_is_told : FactF K "is_told" "Hall.is_told" s_Hall_is_told f_Hall_is_told := ⟨_, _, _, _, _, _, _, _, _, hl_Hall_is_told, hcd_Hall_is_told, hkp_Hall_is_told⟩
  have R_Hall_is_told : RawM K (mkC K A6 A4 A5 X3 X4 X5) 5 "is_told" "Hall.is_told" s_Hall_is_told ["self", "name", "level"] := rawM_mk b_Hall_is_told rfl ha_Hall_is_told hi_Hall_is_told F_Hall_is_told
  have b_Hall_ways : BindOk "ways" "Hall.ways" s_Hall_ways ["self", "name"] := fun _ _ _ _ _ _ us hl => match us, hl with | [_, _], _ => rfl
  have F_Hall_ways : FactF K "ways" "Hall.ways" s_Hall_ways f_Hall_ways := ⟨_, _, _, _, _, _, _, _, _, hl_Hall_ways, hcd_Hall_ways, hkp_Hall_ways⟩
  have R_Hall_ways : RawM K (mkC K A6 A4 A5 X3 X4 X5) 5 "ways" "Hall.ways" s_Hall_ways ["self", "name"] := rawM_mk b_Hall_ways rfl ha_Hall_ways hi_Hall_ways F_Hall_ways
  have b_level_word : BindOk "level_word" "level_word" s_level_word ["level"] := fun _ _ _ _ _ _ us hl => match us, hl with | [_], _ => rfl
  have F_level_word : FactF K "level_word" "level_word" s_level_word f_level_word := ⟨_, _, _, _, _, _, _, _, _, hl_level_word, hcd_level_word, hkp_level_word⟩
  have R_level_word : RawF K mg "level_word" s_level_word ["level"] := rawF_mk X G b_level_word ha_level_word F_level_word
  have b_field_text : BindOk "field_text" "field_text" s_field_text ["word", "record"] := fun _ _ _ _ _ _ us hl => match us, hl with | [_, _], _ => rfl
  have F_field_text : FactF K "field_text" "field_text" s_field_text f_field_text := ⟨_, _, _, _, _, _, _, _, _, hl_field_text, hcd_field_text, hkp_field_text⟩
  have R_field_text : RawF K mg "field_text" s_field_text ["word", "record"] := rawF_mk X G b_field_text ha_field_text F_field_text
  have b_laid_part : BindOk "laid_part" "laid_part" s_laid_part ["part", "record"] := fun _ _ _ _ _ _ us hl => match us, hl with | [_, _], _ => rfl
  have F_laid_part : FactF K "laid_part" "laid_part" s_laid_part f_laid_part := ⟨_, _, _, _, _, _, _, _, _, hl_laid_part, hcd_laid_part, hkp_laid_part⟩
  have R_laid_part : RawF K mg "laid_part" s_laid_part ["part", "record"] := rawF_mk X G b_laid_part ha_laid_part F_laid_part
  have b_laid : BindOk "laid" "laid" s_laid ["form", "record"] := fun _ _ _ _ _ _ us hl => match us, hl with | [_, _], _ => rfl
  have F_laid : FactF K "laid" "laid" s_laid f_laid := ⟨_, _, _, _, _, _, _, _, _, hl_laid, hcd_laid, hkp_laid⟩
  have R_laid : RawF K mg "laid" s_laid ["form", "record"] := rawF_mk X G b_laid ha_laid F_laid
  have b_is_under : BindOk "is_under" "is_under" s_is_under ["name", "other"] := fun _ _ _ _ _ _ us hl => match us, hl with | [_, _], _ => rfl
  have F_is_under : FactF K "is_under" "is_under" s_is_under f_is_under := ⟨_, _, _, _, _, _, _, _, _, hl_is_under, hcd_is_under, hkp_is_under⟩
  have R_is_under : RawF K mg "is_under" s_is_under ["name", "other"] := rawF_mk X G b_is_under ha_is_under F_is_under
  have b_passes : BindOk "passes" "passes" s_passes ["gate", "record"] := fun _ _ _ _ _ _ us hl => match us, hl with | [_, _], _ => rfl
  have F_passes : FactF K "passes" "passes" s_passes f_passes := ⟨_, _, _, _, _, _, _, _, _, hl_passes, hcd_passes, hkp_passes⟩
  have R_passes : RawF K mg "passes" s_passes ["gate", "record"] := rawF_mk X G b_passes ha_passes F_passes
  have b_Writer_take : BindOk "take" "Writer.take" s_Writer_take ["self", "record"] := fun _ _ _ _ _ _ us hl => match us, hl with | [_, _], _ => rfl
  have F_Writer_take : FactF K "take" "Writer.take" s_Writer_take f_Writer_take := ⟨_, _, _, _, _, _, _, _, _, hl_Writer_take, hcd_Writer_take, hkp_Writer_take⟩
  have R_Writer_take : RawM K (mkC K A6 A4 A5 X3 X4 X5) 4 "take" "Writer.take" s_Writer_take ["self", "record"] := rawM_mk b_Writer_take rfl ha_Writer_take hi_Writer_take F_Writer_take
  have b_Hall_tell : BindOk "tell" "Hall.tell" s_Hall_tell ["self", "record"] := fun _ _ _ _ _ _ us hl => match us, hl with | [_, _], _ => rfl
  have F_Hall_tell : FactF K "tell" "Hall.tell" s_Hall_tell f_Hall_tell := ⟨_, _, _, _, _, _, _, _, _, hl_Hall_tell, hcd_Hall_tell, hkp_Hall_tell⟩
  have R_Hall_tell : RawM K (mkC K A6 A4 A5 X3 X4 X5) 5 "tell" "Hall.tell" s_Hall_tell ["self", "record"] := rawM_mk b_Hall_tell rfl ha_Hall_tell hi_Hall_tell F_Hall_tell
  have b__law_due : BindOk "_law_due" "_law_due" s__law_due ["_law_hall", "_law_writers", "_law_closed", "_law_record_here"] := fun _ _ _ _ _ _ us hl => match us, hl with | [_, _, _, _], _ => rfl
  have F__law_due : FactF K "_law_due" "_law_due" s__law_due f__law_due := ⟨_, _, _, _, _, _, _, _, _, hl__law_due, hcd__law_due, hkp__law_due⟩
  have R__law_due : RawF K mg "_law_due" s__law_due ["_law_hall", "_law_writers", "_law_closed", "_law_record_here"] := rawF_mk X G b__law_due ha__law_due F__law_due
  have b__law_told_holds : BindOk "_law_told_holds" "_law_told_holds" s__law_told_holds ["_law_hall", "_law_writers", "_law_closed", "_law_record_here"] := fun _ _ _ _ _ _ us hl => match us, hl with | [_, _, _, _], _ => rfl
  have F__law_told_holds : FactF K "_law_told_holds" "_law_told_holds" s__law_told_holds f__law_told_holds := ⟨_, _, _, _, _, _, _, _, _, hl__law_told_holds, hcd__law_told_holds, hkp__law_told_holds⟩
  have R__law_told_holds : RawF K mg "_law_told_holds" s__law_told_holds ["_law_hall", "_law_writers", "_law_closed", "_law_record_here"] := rawF_mk X G b__law_told_holds ha__law_told_holds F__law_told_holds
  have b_strength : BindOk "strength" "strength" s_strength ["gate"] := fun _ _ _ _ _ _ us hl => match us, hl with | [_], _ => rfl
  have F_strength : FactF K "strength" "strength" s_strength f_strength := ⟨_, _, _, _, _, _, _, _, _, hl_strength, hcd_strength, hkp_strength⟩
  have R_strength : RawF K mg "strength" s_strength ["gate"] := rawF_mk X G b_strength ha_strength F_strength
  have b_shown_within : BindOk "shown_within" "shown_within" s_shown_within ["gate", "least"] := fun _ _ _ _ _ _ us hl => match us, hl with | [_, _], _ => rfl
  have F_shown_within : FactF K "shown_within" "shown_within" s_shown_within f_shown_within := ⟨_, _, _, _, _, _, _, _, _, hl_shown_within, hcd_shown_within, hkp_shown_within⟩
  have R_shown_within : RawF K mg "shown_within" s_shown_within ["gate", "least"] := rawF_mk X G b_shown_within ha_shown_within F_shown_within
  have b_shown : BindOk "shown" "shown" s_shown ["gate"] := fun _ _ _ _ _ _ us hl => match us, hl with | [_], _ => rfl
  have F_shown : FactF K "shown" "shown" s_shown f_shown := ⟨_, _, _, _, _, _, _, _, _, hl_shown, hcd_shown, hkp_shown⟩
  have R_shown : RawF K mg "shown" s_shown ["gate"] := rawF_mk X G b_shown ha_shown F_shown
  have b_law : BindOk "law" "law" s_law ["_law_script"] := fun _ _ _ _ _ _ us hl => match us, hl with | [_], _ => rfl
  have F_law : FactF K "law" "law" s_law f_law := ⟨_, _, _, _, _, _, _, _, _, hl_law, hcd_law, hkp_law⟩
  exact law_end (C := (mkC K A6 A4 A5 X3 X4 X5)) rfl X G hfa b_law ha_law F_law main fun base B1 B2 fd F => ok_all T Fa R_Hall_init R_Writer_init R_read_field R_with_text R_read_form R_tokens R_Reader_init R_Reader_next_word R_Reader_fail R_Reader_pass_word R_is_name R_Reader_asked R_Reader_any_of R_Reader_all_of R_Reader_one R_read_gate R_Hall_add_writer R_Hall_close R_Hall_writer_at R_Hall_rows R_Hall_set_level R_Hall_take_away R__law_draw R__law_pick R__law_name R__law_gate R__law_record R__law_refused R_above R_Hall_level_of R_Hall_is_told R_Hall_ways R_level_word R_field_text R_laid_part R_laid R_is_under R_passes R_Writer_take R_Hall_tell R__law_due R__law_told_holds R_strength R_shown_within R_shown F
end Lk34
open PySem PySem.W PyProof.Rows
set_option maxRecDepth 100000 in
set_option maxHeartbeats 0 in
theorem PySem.Challenge.cw_loghall_k34_whole_who_takes_records_holds : PySem.Challenge.rw_loghall_k34_whole_who_takes_records.Holds := by
  w_on; o_law; k_head; (case hw => w_witness2)
  k_fill
  refine Dn.walkD (l := PySem.Challenge.rw_loghall_k34_whole_who_takes_records) (x := "_law_script") (k := 106) rfl rfl ⟨rfl, by decide, by decide⟩ (fun w h Y => PySem.W.kIn_of Y) ?F
  case F =>
    intro w mg fa h KX G hmg
    refine' Lk34.all_mk KX G hmg ?n_all ?n_any ?n_dict ?n_int ?n_isinstance ?n_len ?n_list ?n_min ?n_range ?n_sorted ?n_str ?n_tuple ?c_DEEP_MOST_gatetext ?c_DEEP_MOST_names ?c_FIELDS ?l_FIELDS ?i_FIELDS ?s_FIELDS ?c_MARKS ?e_MARKS ?c_PART_MOST ?c_SIGNS_gatetext ?e_SIGNS_gatetext ?c_SIGNS_names ?e_SIGNS_names ?c_TOP_LEVEL ?c_WIDE_MOST ?c_WORDS ?l_WORDS ?i_WORDS ?s_WORDS ?g_BadGate ?g_BadForm ?g_NoWriter ?i_BadGate ?k_BadGate ?s_BadGate ?t_BadGate ?m_BadGate_BadGate ?m_BadForm_BadGate ?m_NoWriter_BadGate ?i_BadForm ?k_BadForm ?s_BadForm ?t_BadForm ?m_BadGate_BadForm ?m_BadForm_BadForm ?m_NoWriter_BadForm ?q_NoWriter ?i_NoWriter ?k_NoWriter ?s_NoWriter ?t_NoWriter ?m_BadGate_NoWriter ?m_BadForm_NoWriter ?m_NoWriter_NoWriter ?xl_BadGate ?rv_BadGate ?sa_BadGate ?ga_BadGate ?gg_BadGate ?nb_BadGate ?ia_BadGate ?it_BadGate ?il_BadGate ?ic_BadGate ?hd_BadGate ?xl_BadForm ?rv_BadForm ?sa_BadForm ?ga_BadForm ?gg_BadForm ?nb_BadForm ?ia_BadForm ?it_BadForm ?il_BadForm ?ic_BadForm ?hd_BadForm ?a_Reader ?fc_Reader ?na_Reader_left ?na_Reader_deep ?mk_Reader ?kc_Reader ?a_Writer ?fc_Writer ?na_Writer_name ?na_Writer_least ?na_Writer_gate ?na_Writer_form ?na_Writer_texts ?mk_Writer ?kc_Writer ?a_Hall ?fc_Hall ?na_Hall_levels ?na_Hall_closed ?na_Hall_writers ?na_Hall_many ?na_Hall_still ?mk_Hall ?kc_Hall ?a_Hall_init ?i_Hall_init ?l_Hall_init ?cd_Hall_init ?kp_Hall_init ?a_Writer_init ?i_Writer_init ?l_Writer_init ?cd_Writer_init ?kp_Writer_init ?a_read_field ?l_read_field ?cd_read_field ?kp_read_field ?a_with_text ?l_with_text ?cd_with_text ?kp_with_text ?a_read_form ?l_read_form ?cd_read_form ?kp_read_form ?a_tokens ?l_tokens ?cd_tokens ?kp_tokens ?a_Reader_init ?i_Reader_init ?l_Reader_init ?cd_Reader_init ?kp_Reader_init ?a_Reader_next_word ?i_Reader_next_word ?l_Reader_next_word ?cd_Reader_next_word ?kp_Reader_next_word ?a_Reader_fail ?i_Reader_fail ?l_Reader_fail ?cd_Reader_fail ?kp_Reader_fail ?a_Reader_pass_word ?i_Reader_pass_word ?l_Reader_pass_word ?cd_Reader_pass_word ?kp_Reader_pass_word ?a_is_name ?l_is_name ?cd_is_name ?kp_is_name ?a_Reader_asked ?i_Reader_asked ?l_Reader_asked ?cd_Reader_asked ?kp_Reader_asked ?a_Reader_any_of ?i_Reader_any_of ?l_Reader_any_of ?cd_Reader_any_of ?kp_Reader_any_of ?a_Reader_all_of ?i_Reader_all_of ?l_Reader_all_of ?cd_Reader_all_of ?kp_Reader_all_of ?a_Reader_one ?i_Reader_one ?l_Reader_one ?cd_Reader_one ?kp_Reader_one ?a_read_gate ?l_read_gate ?cd_read_gate ?kp_read_gate ?a_Hall_add_writer ?i_Hall_add_writer ?l_Hall_add_writer ?cd_Hall_add_writer ?kp_Hall_add_writer ?a_Hall_close ?i_Hall_close ?l_Hall_close ?cd_Hall_close ?kp_Hall_close ?a_Hall_writer_at ?i_Hall_writer_at ?l_Hall_writer_at ?cd_Hall_writer_at ?kp_Hall_writer_at ?a_Hall_rows ?i_Hall_rows ?l_Hall_rows ?cd_Hall_rows ?kp_Hall_rows ?a_Hall_set_level ?i_Hall_set_level ?l_Hall_set_level ?cd_Hall_set_level ?kp_Hall_set_level ?a_Hall_take_away ?i_Hall_take_away ?l_Hall_take_away ?cd_Hall_take_away ?kp_Hall_take_away ?a__law_draw ?l__law_draw ?cd__law_draw ?kp__law_draw ?a__law_pick ?l__law_pick ?cd__law_pick ?kp__law_pick ?a__law_name ?l__law_name ?cd__law_name ?kp__law_name ?a__law_gate ?l__law_gate ?cd__law_gate ?kp__law_gate ?a__law_record ?l__law_record ?cd__law_record ?kp__law_record ?a__law_refused ?l__law_refused ?cd__law_refused ?kp__law_refused ?a_above ?l_above ?cd_above ?kp_above ?a_Hall_level_of ?i_Hall_level_of ?l_Hall_level_of ?cd_Hall_level_of ?kp_Hall_level_of ?a_Hall_is_told ?i_Hall_is_told ?l_Hall_is_told ?cd_Hall_is_told ?kp_Hall_is_told ?a_Hall_ways ?i_Hall_ways ?l_Hall_ways ?cd_Hall_ways ?kp_Hall_ways ?a_level_word ?l_level_word ?cd_level_word ?kp_level_word ?a_field_text ?l_field_text ?cd_field_text ?kp_field_text ?a_laid_part ?l_laid_part ?cd_laid_part ?kp_laid_part ?a_laid ?l_laid ?cd_laid ?kp_laid ?a_is_under ?l_is_under ?cd_is_under ?kp_is_under ?a_passes ?l_passes ?cd_passes ?kp_passes ?a_Writer_take ?i_Writer_take ?l_Writer_take ?cd_Writer_take ?kp_Writer_take ?a_Hall_tell ?i_Hall_tell ?l_Hall_tell ?cd_Hall_tell ?kp_Hall_tell ?a__law_due ?l__law_due ?cd__law_due ?kp__law_due ?a__law_told_holds ?l__law_told_holds ?cd__law_told_holds ?kp__law_told_holds ?a_strength ?l_strength ?cd_strength ?kp_strength ?a_shown_within ?l_shown_within ?cd_shown_within ?kp_shown_within ?a_shown ?l_shown ?cd_shown ?kp_shown ?a_law ?l_law ?cd_law ?kp_law Lk34.main
    (case n_all => k_is)
    (case n_any => k_is)
    (case n_dict => k_is)
    (case n_int => k_is)
    (case n_isinstance => k_is)
    (case n_len => k_is)
    (case n_list => k_is)
    (case n_min => k_is)
    (case n_range => k_is)
    (case n_sorted => k_is)
    (case n_str => k_is)
    (case n_tuple => k_is)
    (case c_DEEP_MOST_gatetext => k_is)
    (case c_DEEP_MOST_names => k_is)
    (case c_FIELDS => k_is)
    (case l_FIELDS => k_is)
    (case i_FIELDS => exact .cons ⟨_, rfl⟩ (.cons ⟨_, rfl⟩ (.cons ⟨_, rfl⟩ (.cons ⟨_, rfl⟩ (.nil)))))
    (case s_FIELDS => decide)
    (case c_MARKS => k_is)
    (case e_MARKS => first | rfl | decide +kernel)
    (case c_PART_MOST => k_is)
    (case c_SIGNS_gatetext => k_is)
    (case e_SIGNS_gatetext => first | rfl | decide +kernel)
    (case c_SIGNS_names => k_is)
    (case e_SIGNS_names => first | rfl | decide +kernel)
    (case c_TOP_LEVEL => k_is)
    (case c_WIDE_MOST => k_is)
    (case c_WORDS => k_is)
    (case l_WORDS => k_is)
    (case i_WORDS => exact .cons ⟨_, rfl⟩ (.cons ⟨_, rfl⟩ (.cons ⟨_, rfl⟩ (.cons ⟨_, rfl⟩ (.cons ⟨_, rfl⟩ (.cons ⟨_, rfl⟩ (.nil)))))))
    (case s_WORDS => decide)
    (case g_BadGate => k_is)
    (case g_BadForm => k_is)
    (case g_NoWriter => k_is)
    (case i_BadGate => k_is)
    (case k_BadGate => k_is)
    (case s_BadGate => k_is)
    (case t_BadGate => k_is)
    (case m_BadGate_BadGate => first | rfl | k_is)
    (case m_BadForm_BadGate => first | rfl | k_is)
    (case m_NoWriter_BadGate => first | rfl | k_is)
    (case i_BadForm => k_is)
    (case k_BadForm => k_is)
    (case s_BadForm => k_is)
    (case t_BadForm => k_is)
    (case m_BadGate_BadForm => first | rfl | k_is)
    (case m_BadForm_BadForm => first | rfl | k_is)
    (case m_NoWriter_BadForm => first | rfl | k_is)
    (case q_NoWriter => k_exc)
    (case i_NoWriter => k_is)
    (case k_NoWriter => k_is)
    (case s_NoWriter => k_is)
    (case t_NoWriter => k_is)
    (case m_BadGate_NoWriter => first | rfl | k_is)
    (case m_BadForm_NoWriter => first | rfl | k_is)
    (case m_NoWriter_NoWriter => first | rfl | k_is)
    (case xl_BadGate => k_is)
    (case rv_BadGate => first | rfl | decide +kernel)
    (case sa_BadGate => k_is)
    (case ga_BadGate => k_is)
    (case gg_BadGate => k_is)
    (case nb_BadGate => k_is)
    (case ia_BadGate => k_is)
    (case it_BadGate => k_is)
    (case il_BadGate => k_is)
    (case ic_BadGate => k_is)
    (case hd_BadGate => k_is)
    (case xl_BadForm => k_is)
    (case rv_BadForm => first | rfl | decide +kernel)
    (case sa_BadForm => k_is)
    (case ga_BadForm => k_is)
    (case gg_BadForm => k_is)
    (case nb_BadForm => k_is)
    (case ia_BadForm => k_is)
    (case it_BadForm => k_is)
    (case il_BadForm => k_is)
    (case ic_BadForm => k_is)
    (case hd_BadForm => k_is)
    (case a_Reader => k_is)
    (case fc_Reader => refine' ⟨?a, ?b, ?c, ?d⟩; (case a => k_is); (case b => k_is); (case c => k_is); (case d => k_is))
    (case na_Reader_left => k_is)
    (case na_Reader_deep => k_is)
    (case mk_Reader => k_is)
    (case kc_Reader => k_is)
    (case a_Writer => k_is)
    (case fc_Writer => refine' ⟨?a, ?b, ?c, ?d⟩; (case a => k_is); (case b => k_is); (case c => k_is); (case d => k_is))
    (case na_Writer_name => k_is)
    (case na_Writer_least => k_is)
    (case na_Writer_gate => k_is)
    (case na_Writer_form => k_is)
    (case na_Writer_texts => k_is)
    (case mk_Writer => k_is)
    (case kc_Writer => k_is)
    (case a_Hall => k_is)
    (case fc_Hall => refine' ⟨?a, ?b, ?c, ?d⟩; (case a => k_is); (case b => k_is); (case c => k_is); (case d => k_is))
    (case na_Hall_levels => k_is)
    (case na_Hall_closed => k_is)
    (case na_Hall_writers => k_is)
    (case na_Hall_many => k_is)
    (case na_Hall_still => k_is)
    (case mk_Hall => k_is)
    (case kc_Hall => k_is)
    (case a_Hall_init => k_is)
    (case i_Hall_init => k_is)
    (case l_Hall_init => k_is)
    (case cd_Hall_init => k_is)
    (case kp_Hall_init => k_is)
    (case a_Writer_init => k_is)
    (case i_Writer_init => k_is)
    (case l_Writer_init => k_is)
    (case cd_Writer_init => k_is)
    (case kp_Writer_init => k_is)
    (case a_read_field => k_is)
    (case l_read_field => k_is)
    (case cd_read_field => k_is)
    (case kp_read_field => k_is)
    (case a_with_text => k_is)
    (case l_with_text => k_is)
    (case cd_with_text => k_is)
    (case kp_with_text => k_is)
    (case a_read_form => k_is)
    (case l_read_form => k_is)
    (case cd_read_form => k_is)
    (case kp_read_form => k_is)
    (case a_tokens => k_is)
    (case l_tokens => k_is)
    (case cd_tokens => k_is)
    (case kp_tokens => k_is)
    (case a_Reader_init => k_is)
    (case i_Reader_init => k_is)
    (case l_Reader_init => k_is)
    (case cd_Reader_init => k_is)
    (case kp_Reader_init => k_is)
    (case a_Reader_next_word => k_is)
    (case i_Reader_next_word => k_is)
    (case l_Reader_next_word => k_is)
    (case cd_Reader_next_word => k_is)
    (case kp_Reader_next_word => k_is)
    (case a_Reader_fail => k_is)
    (case i_Reader_fail => k_is)
    (case l_Reader_fail => k_is)
    (case cd_Reader_fail => k_is)
    (case kp_Reader_fail => k_is)
    (case a_Reader_pass_word => k_is)
    (case i_Reader_pass_word => k_is)
    (case l_Reader_pass_word => k_is)
    (case cd_Reader_pass_word => k_is)
    (case kp_Reader_pass_word => k_is)
    (case a_is_name => k_is)
    (case l_is_name => k_is)
    (case cd_is_name => k_is)
    (case kp_is_name => k_is)
    (case a_Reader_asked => k_is)
    (case i_Reader_asked => k_is)
    (case l_Reader_asked => k_is)
    (case cd_Reader_asked => k_is)
    (case kp_Reader_asked => k_is)
    (case a_Reader_any_of => k_is)
    (case i_Reader_any_of => k_is)
    (case l_Reader_any_of => k_is)
    (case cd_Reader_any_of => k_is)
    (case kp_Reader_any_of => k_is)
    (case a_Reader_all_of => k_is)
    (case i_Reader_all_of => k_is)
    (case l_Reader_all_of => k_is)
    (case cd_Reader_all_of => k_is)
    (case kp_Reader_all_of => k_is)
    (case a_Reader_one => k_is)
    (case i_Reader_one => k_is)
    (case l_Reader_one => k_is)
    (case cd_Reader_one => k_is)
    (case kp_Reader_one => k_is)
    (case a_read_gate => k_is)
    (case l_read_gate => k_is)
    (case cd_read_gate => k_is)
    (case kp_read_gate => k_is)
    (case a_Hall_add_writer => k_is)
    (case i_Hall_add_writer => k_is)
    (case l_Hall_add_writer => k_is)
    (case cd_Hall_add_writer => k_is)
    (case kp_Hall_add_writer => k_is)
    (case a_Hall_close => k_is)
    (case i_Hall_close => k_is)
    (case l_Hall_close => k_is)
    (case cd_Hall_close => k_is)
    (case kp_Hall_close => k_is)
    (case a_Hall_writer_at => k_is)
    (case i_Hall_writer_at => k_is)
    (case l_Hall_writer_at => k_is)
    (case cd_Hall_writer_at => k_is)
    (case kp_Hall_writer_at => k_is)
    (case a_Hall_rows => k_is)
    (case i_Hall_rows => k_is)
    (case l_Hall_rows => k_is)
    (case cd_Hall_rows => k_is)
    (case kp_Hall_rows => k_is)
    (case a_Hall_set_level => k_is)
    (case i_Hall_set_level => k_is)
    (case l_Hall_set_level => k_is)
    (case cd_Hall_set_level => k_is)
    (case kp_Hall_set_level => k_is)
    (case a_Hall_take_away => k_is)
    (case i_Hall_take_away => k_is)
    (case l_Hall_take_away => k_is)
    (case cd_Hall_take_away => k_is)
    (case kp_Hall_take_away => k_is)
    (case a__law_draw => k_is)
    (case l__law_draw => k_is)
    (case cd__law_draw => k_is)
    (case kp__law_draw => k_is)
    (case a__law_pick => k_is)
    (case l__law_pick => k_is)
    (case cd__law_pick => k_is)
    (case kp__law_pick => k_is)
    (case a__law_name => k_is)
    (case l__law_name => k_is)
    (case cd__law_name => k_is)
    (case kp__law_name => k_is)
    (case a__law_gate => k_is)
    (case l__law_gate => k_is)
    (case cd__law_gate => k_is)
    (case kp__law_gate => k_is)
    (case a__law_record => k_is)
    (case l__law_record => k_is)
    (case cd__law_record => k_is)
    (case kp__law_record => k_is)
    (case a__law_refused => k_is)
    (case l__law_refused => k_is)
    (case cd__law_refused => k_is)
    (case kp__law_refused => k_is)
    (case a_above => k_is)
    (case l_above => k_is)
    (case cd_above => k_is)
    (case kp_above => k_is)
    (case a_Hall_level_of => k_is)
    (case i_Hall_level_of => k_is)
    (case l_Hall_level_of => k_is)
    (case cd_Hall_level_of => k_is)
    (case kp_Hall_level_of => k_is)
    (case a_Hall_is_told => k_is)
    (case i_Hall_is_told => k_is)
    (case l_Hall_is_told => k_is)
    (case cd_Hall_is_told => k_is)
    (case kp_Hall_is_told => k_is)
    (case a_Hall_ways => k_is)
    (case i_Hall_ways => k_is)
    (case l_Hall_ways => k_is)
    (case cd_Hall_ways => k_is)
    (case kp_Hall_ways => k_is)
    (case a_level_word => k_is)
    (case l_level_word => k_is)
    (case cd_level_word => k_is)
    (case kp_level_word => k_is)
    (case a_field_text => k_is)
    (case l_field_text => k_is)
    (case cd_field_text => k_is)
    (case kp_field_text => k_is)
    (case a_laid_part => k_is)
    (case l_laid_part => k_is)
    (case cd_laid_part => k_is)
    (case kp_laid_part => k_is)
    (case a_laid => k_is)
    (case l_laid => k_is)
    (case cd_laid => k_is)
    (case kp_laid => k_is)
    (case a_is_under => k_is)
    (case l_is_under => k_is)
    (case cd_is_under => k_is)
    (case kp_is_under => k_is)
    (case a_passes => k_is)
    (case l_passes => k_is)
    (case cd_passes => k_is)
    (case kp_passes => k_is)
    (case a_Writer_take => k_is)
    (case i_Writer_take => k_is)
    (case l_Writer_take => k_is)
    (case cd_Writer_take => k_is)
    (case kp_Writer_take => k_is)
    (case a_Hall_tell => k_is)
    (case i_Hall_tell => k_is)
    (case l_Hall_tell => k_is)
    (case cd_Hall_tell => k_is)
    (case kp_Hall_tell => k_is)
    (case a__law_due => k_is)
    (case l__law_due => k_is)
    (case cd__law_due => k_is)
    (case kp__law_due => k_is)
    (case a__law_told_holds => k_is)
    (case l__law_told_holds => k_is)
    (case cd__law_told_holds => k_is)
    (case kp__law_told_holds => k_is)
    (case a_strength => k_is)
    (case l_strength => k_is)
    (case cd_strength => k_is)
    (case kp_strength => k_is)
    (case a_shown_within => k_is)
    (case l_shown_within => k_is)
    (case cd_shown_within => k_is)
    (case kp_shown_within => k_is)
    (case a_shown => k_is)
    (case l_shown => k_is)
    (case cd_shown => k_is)
    (case kp_shown => k_is)
    (case a_law => k_is)
    (case l_law => k_is)
    (case cd_law => k_is)
    (case kp_law => k_is)
